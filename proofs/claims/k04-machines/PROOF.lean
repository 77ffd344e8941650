import PyProof.Rows.All
import Wide.All
import OpenK.AllK
import Wide.FinOn
import HandS.ForMost
import HandS.Exc
import HandS.Lambda
import HandS.Walk
import HandS.TupAny
import HandS.Deep
import HandS.Style
import HandS.TupMul
import HandS.StrMore
import HandS.ExcOwn
import HandS.WordsExc
import HandS.TryOnly
import HandS.CallSlots
import HandS.Replace
import HandS.SetFor
import HandS.IsInst
import HandS.Small
import KE.KDflt
import PyProof.P3In
import KE.DataMinMax
import KE.SortCalls
import KE.SortData
import PyProof.ReprRoads
import PyProof.CallFns
import HandS.More
import KE.GoesEnum
import HandS.Zip
import KE.KDictDisplayH
import HandS.Zip0
import KE.KDictZip
import PyProof.ListNew
import HandS.ExcIs
import PyProof.DefCall
import KE.KNest
import HandS.HeadWalk
import HandS.HeadHook4
import HandS.Head0
import HandS.Head1
import HandS.Head2
import HandS.HeadEnd
import PyProof.ExcBaseAll.ValueError
import PySem.Challenge.RW_placesayings_k04_whole_machines_and_what
section
set_option Elab.async false
set_option linter.all false
/-! EV1: plain data, the store, the small language and its evaluator -/
namespace EV
/-- plain data: texts are lists of code points; lists here are never changed -/
inductive D where
  | non | bl (b : Bool) | int (i : Int) | str (s : List Nat) | tup (ds : List D) | lst (ds : List D)
/-- a dict's keys -/
inductive Ky where
  | i (k : Int) | s (x : List Nat)
  deriving DecidableEq
/-- what stands in the store -/
inductive Cell where
  | lst (ds : List D) | fzn (ds : List D) | dic (kvs : List (Ky × D)) | fzd (kvs : List (Ky × D)) | dit (kvs : List (List Int × D))
/-- what a name holds -/
inductive Vl where
  | d (x : D) | ref (n : Nat) | fnv (f : Nat) | exn (c : Nat) (xs : List D) | clo (f : Nat) (cs : List Vl) | scr (ds : List D)
abbrev Sto := List Cell
abbrev Loc := List (Option Vl)
inductive R (α : Type) where
  | ok (a : α) (S : Sto) | exc (c : Nat) (xs : List D) (S : Sto) | stuck
def R.bind {α β : Type} : R α → (α → Sto → R β) → R β
  | .ok a S, f => f a S
  | .exc c xs S, _ => .exc c xs S
  | .stuck, _ => .stuck
@[simp] theorem R.bind_ok {α β : Type} (a : α) (S : Sto) (f : α → Sto → R β) : (R.ok a S).bind f = f a S := rfl
@[simp] theorem R.bind_exc {α β : Type} (c : Nat) (xs : List D) (S : Sto) (f : α → Sto → R β) : (R.exc c xs S : R α).bind f = .exc c xs S := rfl
@[simp] theorem R.bind_stuck {α β : Type} (f : α → Sto → R β) : (R.stuck : R α).bind f = .stuck := rfl
def R.opt {α β : Type} : Option α → (α → R β) → R β
  | some a, f => f a
  | none, _ => .stuck
@[simp] theorem R.opt_some {α β : Type} (a : α) (f : α → R β) : R.opt (some a) f = f a := rfl
@[simp] theorem R.opt_none {α β : Type} (f : α → R β) : R.opt none f = .stuck := rfl

/-! ### data -/
def lim : Nat := 16777216
mutual
def dep : D → Nat
  | .tup ds => deps ds + 1
  | .lst ds => deps ds + 1
  | _ => 0
def deps : List D → Nat
  | [] => 0
  | d :: ds => max (dep d) (deps ds)
end
mutual
def eqD : D → D → Bool
  | .non, .non => true
  | .bl a, .bl b => a == b
  | .bl a, .int j => (if a then 1 else 0) == j
  | .int i, .bl b => i == (if b then 1 else 0)
  | .int i, .int j => i == j
  | .str x, .str y => x == y
  | .tup xs, .tup ys => eqDs xs ys
  | .lst xs, .lst ys => eqDs xs ys
  | _, _ => false
def eqDs : List D → List D → Bool
  | [], [] => true
  | x :: xs, y :: ys => eqD x y && eqDs xs ys
  | _, _ => false
end
/-- texts by code points -/
def ltS (x y : List Nat) : Bool := decide (x < y)
def intsOf : List D → Option (List Int)
  | [] => some []
  | .int i :: ds => (intsOf ds).map (i :: ·)
  | _ :: _ => none
/-- rows of ints -/
def lexI : List Int → List Int → Bool
  | [], [] => false
  | [], _ :: _ => true
  | _ :: _, [] => false
  | a :: x, b :: y => if a = b then lexI x y else decide (a < b)
/-! ints, texts, tuples of those (none: no order is told) -/
mutual
def ltD : D → D → Option Bool
  | .int i, .int j => some (decide (i < j))
  | .str x, .str y => some (ltS x y)
  | .tup xs, .tup ys => ltDs xs ys
  | .lst xs, .lst ys => ltDs xs ys
  | _, _ => none
def ltDs : List D → List D → Option Bool
  | [], [] => some false
  | [], _ :: _ => some true
  | _ :: _, [] => some false
  | x :: xs, y :: ys => if eqD x y then ltDs xs ys else ltD x y
end
/-! data of one kind, place by place -/
mutual
def likeD : D → D → Bool
  | .int _, .int _ => true
  | .str _, .str _ => true
  | .tup xs, .tup ys => likeDs xs ys
  | .lst xs, .lst ys => likeDs xs ys
  | _, _ => false
def likeDs : List D → List D → Bool
  | x :: xs, y :: ys => likeD x y && likeDs xs ys
  | _, _ => true
end
def alikes (ds : List D) : Bool := ds.all fun x => ds.all fun y => likeD x y
def notLst : D → Bool
  | .lst _ => false
  | _ => true
/-- what may be sorted: tuples with an item at least, or none a tuple -/
def srtB (ds : List D) : Bool :=
  (ds.all fun d => match d with
    | .tup (_ :: _) => true
    | _ => false) || ds.all fun d => match d with
    | .tup _ => false
    | _ => true
/-- an index -/
def ixI (n : Nat) (i : Int) : Option Nat := if 0 ≤ i then (if i < n then some i.toNat else none) else if -(n : Int) ≤ i then some (i + n).toNat else none
def clip (n : Nat) (i : Int) : Nat := if i < 0 then (i + n).toNat else min i.toNat n
def loI (n : Nat) : Option Int → Nat
  | none => 0
  | some i => clip n i
def hiI (n : Nat) : Option Int → Nat
  | none => n
  | some i => clip n i
def cut {α : Type} (xs : List α) (lo hi : Option Int) : List α := (xs.drop (loI xs.length lo)).take (hiI xs.length hi - loI xs.length lo)

/-! ### tables -/
def kyOf : D → Option Ky
  | .int i => some (.i i)
  | .str s => some (.s s)
  | _ => none
def kyD : Ky → D
  | .i k => .int k
  | .s x => .str x
def valA {κ β : Type} [DecidableEq κ] (kvs : List (κ × β)) (k : κ) : Option β := (kvs.find? fun kv => decide (kv.1 = k)).map (·.2)
def putA {κ β : Type} [DecidableEq κ] (kvs : List (κ × β)) (k : κ) (v : β) : List (κ × β) :=
  if (kvs.any fun kv => decide (kv.1 = k)) = true then kvs.map (fun kv => if kv.1 = k then (kv.1, v) else kv) else kvs ++ [(k, v)]
def pairsA : List D → Option (List (Ky × D))
  | [] => some []
  | k :: v :: r => (kyOf k).bind fun y => (pairsA r).map ((y, v) :: ·)
  | _ => none
/-! ### the language -/
inductive Op where
  | add | sub | mul | fdiv | mod | pow
  deriving DecidableEq
inductive Cm where
  | eq | ne | lt | le | gt | ge | is | isnot | isin | notin
  deriving DecidableEq
inductive Ty where
  | bool | int | str | tup | lst | dic
  deriving DecidableEq
inductive Bi where
  | len | abs | int | str | tup | lst | sorted | all | any | min | max | sum | repr
  deriving DecidableEq
inductive Mt where
  | append | extend | pop | pop0 | lidx | sidx | lcnt | join | split | replace | get
  deriving DecidableEq
/-- a target: a slot, or a tuple of targets -/
inductive LT where
  | nm (i : Nat) | tp (a b : LT) | tp3 (a b c : LT)
mutual
inductive LE where
  | lit (d : D)
  | var (i : Nat)
  | glob (x : String) (v : Vl)
  | op (o : Op) (a b : LE)
  | neg (a : LE)
  | not (a : LE)
  | and (a b : LE)
  | or (a b : LE)
  | cmp (o : Cm) (a b : LE)
  | chain (o p : Cm) (a b c : LE)
  | ife (c a b : LE)
  | tup (es : LEs)
  | lst (es : LEs)
  | thaw (e : LE)
  | frz (e : LE)
  | idx (a i : LE)
  | slc (a : LE) (lo hi : LO)
  | rev (a : LE)
  | call (f : Nat) (x : String) (es : LEs)
  | callv (i : Nat) (es : LEs)
  | bi (b : Bi) (es : LEs)
  | mt (m : Mt) (o : LE) (es : LEs)
  | isi (e : LE) (t : Ty)
  | isx (i : Nat) (x : String) (c : Nat)
  | comp (elt : LE) (g : LI) (t : LT) (c : LO) (own : List Nat)
  | dct (kvs : LEs)
  | lzip (a b : LE)
  | dcomp (k v : LE) (g : LI) (t : LT) (own : List Nat)
  | lam (f : Nat) (caps : List Nat)
inductive LEs where
  | nil | cons (e : LE) (es : LEs)
inductive LO where
  | no | yes (e : LE)
inductive LI where
  | val (e : LE) | rng1 (a : LE) | rng2 (a b : LE) | zip (a b : LE) | enm (a : LE)
end
mutual
inductive LS where
  | pass
  | asg (t : LT) (e : LE)
  | par (i j : Nat) (a b : LE)
  | par3 (i j k : Nat) (a b d : LE)
  | parN (is : List Nat) (es : LEs)
  | never
  | sub (a i e : LE)
  | ex (e : LE)
  | ife (c : LE) (a b : LSs)
  | for_ (t : LT) (g : LI) (b : LSs)
  | while_ (c : LE) (b : LSs)
  | ret (e : LE)
  | retk (e : LE)
  | retn
  | raise (c : Nat) (x : String) (es : LEs)
  | try_ (b : LSs) (c : Nat) (x : String) (j : Nat) (h : LSs)
inductive LSs where
  | nil | cons (s : LS) (ss : LSs)
end

/-! ### reading and freezing -/
def peek (S : Sto) : Vl → Option D
  | .d x => some x
  | .ref n => match S[n]? with
    | some (.lst ds) => some (.lst ds)
    | some (.fzn ds) => some (.lst ds)
    | _ => none
  | _ => none
def peeks (S : Sto) : List Vl → Option (List D)
  | [] => some []
  | v :: vs => match peek S v, peeks S vs with
    | some x, some xs => some (x :: xs)
    | _, _ => none
/-- a value that is kept in data: a list is never changed from then on -/
def take (S : Sto) : Vl → Option (D × Sto)
  | .d x => some (x, S)
  | .ref n => match S[n]? with
    | some (.lst ds) => some (.lst ds, S.set n (.fzn ds))
    | some (.fzn ds) => some (.lst ds, S)
    | _ => none
  | _ => none
def takes (S : Sto) : List Vl → Option (List D × Sto)
  | [] => some ([], S)
  | v :: vs => match take S v with
    | some (x, S') => match takes S' vs with
      | some (xs, S'') => some (x :: xs, S'')
      | none => none
    | none => none
def bitsOf : List D → Option (List Bool)
  | [] => some []
  | .bl b :: ds => (bitsOf ds).map (b :: ·)
  | _ :: _ => none
def strsOf : List D → Option (List (List Nat))
  | [] => some []
  | .str s :: ds => (strsOf ds).map (s :: ·)
  | _ :: _ => none
def leastD : D → List D → Option D
  | m, [] => some m
  | m, d :: ds => match ltD d m with
    | some true => leastD d ds
    | some false => leastD m ds
    | none => none
def mostD : D → List D → Option D
  | m, [] => some m
  | m, d :: ds => match ltD m d with
    | some true => mostD d ds
    | some false => mostD m ds
    | none => none
def inD (x : D) (ds : List D) : Bool := ds.any fun y => eqD y x
def joinS (sep : List Nat) : List (List Nat) → List Nat
  | [] => []
  | [x] => x
  | x :: y :: r => x ++ (sep ++ joinS sep (y :: r))
def smallI (i : Int) : Bool := decide (-(2 ^ 64) < i) && decide (i < 2 ^ 64)

/-! ### operators, by data -/
def opD : Op → D → D → Option D
  | .add, .int i, .int j => some (.int (i + j))
  | .sub, .int i, .int j => some (.int (i - j))
  | .mul, .int i, .int j => if smallI i || smallI j then some (.int (i * j)) else none
  | .fdiv, .int i, .int j => if 0 < j ∧ j < 1073741824 then some (.int (i / j)) else none
  | .mod, .int i, .int j => if 0 < j then some (.int (i % j)) else none
  | .pow, .int i, .int j => if 0 ≤ j ∧ j ≤ 1000000 ∧ i.natAbs < 2 ^ 64 then some (.int (i ^ j.toNat)) else none
  | .add, .str x, .str y => if x.length + y.length ≤ lim then some (.str (x ++ y)) else none
  | .add, .tup xs, .tup ys => if xs.length + ys.length ≤ lim then some (.tup (xs ++ ys)) else none
  | .add, .lst xs, .lst ys => if xs.length + ys.length ≤ lim then some (.lst (xs ++ ys)) else none
  | .mul, .lst xs, .int k => if -(2 ^ 63) ≤ k ∧ k < 2 ^ 63 ∧ xs.length * k.toNat ≤ lim then some (.lst (List.replicate k.toNat xs).flatten) else none
  | .mul, .tup xs, .int k => if k = 1 then some (.tup xs) else if xs ≠ [] ∧ 2 ≤ k ∧ k ≤ 1000 ∧ xs.length ≤ 1000 then some (.tup (List.replicate k.toNat xs).flatten) else none
  | _, _, _ => none
def cmD : Cm → D → D → Option Bool
  | .eq, x, y => if min (dep x) (dep y) ≤ 60 then some (eqD x y) else none
  | .ne, x, y => if min (dep x) (dep y) ≤ 60 then some (!eqD x y) else none
  | .lt, .int i, .int j => some (decide (i < j))
  | .le, .int i, .int j => some (decide (i ≤ j))
  | .gt, .int i, .int j => some (decide (j < i))
  | .ge, .int i, .int j => some (decide (j ≤ i))
  | .lt, .str x, .str y => some (ltS x y)
  | .le, .str x, .str y => some (!ltS y x)
  | .gt, .str x, .str y => some (ltS y x)
  | .ge, .str x, .str y => some (!ltS x y)
  | .lt, .tup xs, .tup ys => match intsOf xs, intsOf ys with
    | some ns, some ms => some (lexI ns ms)
    | _, _ => none
  | .is, .non, .non => some true
  | .is, _, .non => some false
  | .is, .bl a, .bl b => some (a == b)
  | .isnot, .non, .non => some false
  | .isnot, _, .non => some true
  | .isnot, .bl a, .bl b => some (!(a == b))
  | .isin, .str [c], .str y => some (y.contains c)
  | .notin, .str [c], .str y => some (!y.contains c)
  | .isin, x, .tup ys => if dep x ≤ 60 then some (inD x ys) else none
  | .isin, x, .lst ys => if dep x ≤ 60 then some (inD x ys) else none
  | .notin, x, .tup ys => if dep x ≤ 60 then some (!inD x ys) else none
  | .notin, x, .lst ys => if dep x ≤ 60 then some (!inD x ys) else none
  | _, _, _ => none
def idxD : D → D → Option D
  | .tup ds, .int i => (ixI ds.length i).bind fun j => ds[j]?
  | .lst ds, .int i => (ixI ds.length i).bind fun j => ds[j]?
  | .str s, .int i => if s.length ≤ lim then ((ixI s.length i).bind fun j => s[j]?).map fun c => .str [c] else none
  | _, _ => none
def slcD (x : D) (lo hi : Option Int) : Option D :=
  match x with
  | .tup ds => some (.tup (cut ds lo hi))
  | .lst ds => some (.lst (cut ds lo hi))
  | .str s => if s.length ≤ lim then some (.str (cut s lo hi)) else none
  | _ => none
def revD : D → Option D
  | .lst ds => some (.lst ds.reverse)
  | .str s => if s.length ≤ lim then some (.str s.reverse) else none
  | _ => none
def isTyD : Ty → D → Bool
  | .bool, .bl _ => true
  | .int, .bl _ => true
  | .int, .int _ => true
  | .str, .str _ => true
  | .tup, .tup _ => true
  | .lst, .lst _ => true
  | _, _ => false
def isTy (t : Ty) (v : Vl) (S : Sto) : Option Bool :=
  match v with
  | .d x => some (isTyD t x)
  | .ref n => match (S : List Cell)[n]? with
    | some (.lst _) => some (decide (t = .lst))
    | some (.fzn _) => some (decide (t = .lst))
    | some (.dic _) => some (decide (t = .dic))
    | some (.fzd _) => none
    | some (.dit _) => some (decide (t = .dic))
    | none => none
  | _ => none
/-- stable, by a strict order -/
def insD (x : D) : List D → Option (List D)
  | [] => some [x]
  | y :: ys => match ltD x y with
    | some true => some (x :: y :: ys)
    | some false => (insD x ys).map (y :: ·)
    | none => none
def sortD : List D → Option (List D)
  | [] => some []
  | x :: xs => match sortD xs with
    | some ys => insFront x ys
    | none => none
where insFront (x : D) : List D → Option (List D)
  | [] => some [x]
  | y :: ys => match ltD y x with
    | some true => (insFront x ys).map (y :: ·)
    | some false => some (x :: y :: ys)
    | none => none
def biD : Bi → List D → Option D
  | .len, [.str s] => if s.length ≤ lim then some (.int s.length) else none
  | .len, [.tup ds] => some (.int ds.length)
  | .len, [.lst ds] => some (.int ds.length)
  | .abs, [.int i] => some (.int (if i < 0 then -i else i))
  | .int, [.int i] => some (.int i)
  | .int, [.bl b] => some (.int (if b then 1 else 0))
  | .tup, [.lst ds] => some (.tup ds)
  | .tup, [.tup ds] => some (.tup ds)
  | .lst, [.lst ds] => some (.lst ds)
  | .lst, [.tup ds] => some (.lst ds)
  | .all, [.lst ds] => (bitsOf ds).map fun bs => .bl (bs.all id)
  | .any, [.lst ds] => (bitsOf ds).map fun bs => .bl (bs.any id)
  | .sum, [.lst ds] => (intsOf ds).map fun ns => .int ns.sum
  | .min, [.int i, .int j] => some (.int (if j < i then j else i))
  | .max, [.int i, .int j] => some (.int (if j > i then j else i))
  | .min, [.lst (.int m :: ds)] => leastD (.int m) ds
  | .max, [.lst (.int m :: ds)] => mostD (.int m) ds
  | .min, [.lst (m :: ds)] => if alikes (m :: ds) && decide (deps (m :: ds) ≤ 60) && notLst m then leastD m ds else none
  | .max, [.lst (m :: ds)] => if alikes (m :: ds) && decide (deps (m :: ds) ≤ 60) && notLst m then mostD m ds else none
  | .sorted, [.lst ds] => if alikes ds && decide (deps ds ≤ 60) && srtB ds then (sortD ds).map .lst else none
  | _, _ => none
def mtD : Mt → D → List D → Option D
  | .join, .str sep, [.lst ds] => (strsOf ds).bind fun ss => if (ss.map List.length).sum + ss.length * sep.length ≤ lim then some (.str (joinS sep ss)) else none
  | .lidx, .lst ds, [x] => if dep x ≤ 60 then (ds.findIdx? fun y => eqD y x).map fun k => .int (k : Nat) else none
  | .lcnt, .lst ds, [x] => if dep x ≤ 60 then some (.int ((ds.countP fun y => eqD y x) : Nat)) else none
  | .sidx, .str s, [.str [c]] => if s = [97, 98] then (if c = 97 then some (.int 0) else if c = 98 then some (.int 1) else none) else none
  | _, _, _ => none

def plainV : Vl → Bool
  | .d _ => true
  | .ref _ => true
  | .fnv _ => true
  | _ => false
/-! ### the evaluator -/
structure Env where
  cf : Nat → List Vl → Sto → R Vl
  wf : Nat
  sub : Nat → Nat → Option Bool
def setT : LT → D → Loc → Option Loc
  | .nm i, x, l => some (l.set i (some (.d x)))
  | .tp a b, .tup [x, y], l => (setT a x l).bind (setT b y)
  | .tp3 a b c, .tup [x, y, z], l => ((setT a x l).bind (setT b y)).bind (setT c z)
  | _, _, _ => none
def setTV (t : LT) (v : Vl) (S : Sto) (l : Loc) : Option Loc :=
  match t with
  | .nm i => some (l.set i (some v))
  | _ => match v with
    | .d x => setT t x l
    | _ => none
def wipeL (l : Loc) : List Nat → Loc
  | [] => l
  | i :: is => wipeL (l.set i none) is
/-- a comprehension over items; no error leaves it -/
def compGo (t : LT) (c : Loc → Sto → R Bool) (e : Loc → Sto → R Vl) (l : Loc) : List D → List D → Sto → R (List D)
  | [], acc, S => .ok acc S
  | x :: xs, acc, S => match setT t x l with
    | none => .stuck
    | some l' => match c l' S with
      | .ok true S1 => match e l' S1 with
        | .ok v S2 => match take S2 v with
          | some (y, S3) => if acc.length < lim then compGo t c e l xs (acc ++ [y]) S3 else .stuck
          | none => .stuck
        | _ => .stuck
      | .ok false S1 => compGo t c e l xs acc S1
      | _ => .stuck
/-- a comprehension over a list that stands in the store: it must stay as it is -/
def compRef (t : LT) (c : Loc → Sto → R Bool) (e : Loc → Sto → R Vl) (l : Loc) (n : Nat) : Nat → Nat → List D → Sto → R (List D)
  | 0, _, _, _ => .stuck
  | k + 1, i, acc, S => match (S : List Cell)[n]? with
    | some (.lst ds) => match ds[i]? with
      | none => .ok acc S
      | some x => match setT t x l with
        | none => .stuck
        | some l' => match c l' S with
          | .ok true S1 => match e l' S1 with
            | .ok v S2 => match take S2 v with
              | some (y, S3) => if acc.length < lim then compRef t c e l n k (i + 1) (acc ++ [y]) S3 else .stuck
              | none => .stuck
            | _ => .stuck
          | .ok false S1 => compRef t c e l n k (i + 1) acc S1
          | _ => .stuck
    | _ => .stuck
/-- what is walked: items told ahead, or a list in the store -/
inductive Src where
  | items (ds : List D) | live (n : Nat)
def rangeD (i j : Int) : List D := (List.range (j - i).toNat).map fun k => .int (i + (k : Nat))
def zipD : List D → List D → List D
  | x :: xs, y :: ys => .tup [x, y] :: zipD xs ys
  | _, _ => []
def enmD : List D → Nat → List D
  | [], _ => []
  | x :: xs, k => .tup [.int (k : Nat), x] :: enmD xs (k + 1)
def seqD : D → Option (List D)
  | .tup ds => some ds
  | .lst ds => some ds
  | .str s => some (s.map fun c => .str [c])
  | _ => none
def wideI (i : Int) : Bool := decide (-(2 ^ 62) ≤ i) && decide (i < 2 ^ 62)
def compR (t : LT) (c : Loc → Sto → R Bool) (e : Loc → Sto → R Vl) (l : Loc) (src : Src) (S : Sto) : R (List D) :=
  match src with
  | .items ds => compGo t c e l ds [] S
  | .live n => match S[n]? with
    | some (.lst ds) => compRef t c e l n (ds.length + 1) 0 [] S
    | _ => .stuck
def liveL (S : Sto) (n : Nat) : Bool :=
  match (S : List Cell)[n]? with
  | some (.lst _) => true
  | _ => false
def asBool : Vl → Option Bool
  | .d (.bl b) => some b
  | _ => none
def dicOf (S : Sto) : Vl → Option (List (Ky × D))
  | .ref n => match (S : List Cell)[n]? with
    | some (.dic kvs) => some kvs
    | some (.fzd kvs) => some kvs
    | _ => none
  | _ => none
/-- a table whose keys are tuples of ints -/
def ditOf (S : Sto) : Vl → Option (List (List Int × D))
  | .ref n => match (S : List Cell)[n]? with
    | some (.dit kvs) => some kvs
    | _ => none
  | _ => none
def keyT : D → Option (List Int)
  | .tup ds => intsOf ds
  | _ => none
def cmV (o : Cm) (v w : Vl) (S : Sto) : Option Bool :=
  match dicOf S w with
  | some kvs => match o, (peek S v).bind kyOf with
    | .isin, some k => some (valA kvs k).isSome
    | .notin, some k => some (!(valA kvs k).isSome)
    | _, _ => none
  | none => match ditOf S w with
    | some kvs => match o, (peek S v).bind keyT with
      | .isin, some k => some (valA kvs k).isSome
      | .notin, some k => some (!(valA kvs k).isSome)
      | _, _ => none
    | none => match peek S v, peek S w with
      | some x, some y => cmD o x y
      | _, _ => none
def idxV (v w : Vl) (S : Sto) : Option D :=
  match dicOf S v with
  | some kvs => ((peek S w).bind kyOf).bind fun k => valA kvs k
  | none => match ditOf S v with
    | some kvs => ((peek S w).bind keyT).bind fun k => valA kvs k
    | none => match peek S v, peek S w with
      | some x, some y => idxD x y
      | _, _ => none
/-- the keys, ints all -/
def keysI : List (Ky × D) → Option (List Int)
  | [] => some []
  | (.i k, _) :: r => (keysI r).map (k :: ·)
  | _ => none
def insI (i : Int) : List Int → List Int
  | [] => [i]
  | j :: js => if i ≤ j then i :: j :: js else j :: insI i js
def srtI (is : List Int) : List Int := is.foldr insI []
def biW (b : Bi) (vs : List Vl) (S : Sto) : Option D :=
  match vs with
  | [v] => match dicOf S v with
    | some kvs => match b with
      | .lst => some (.lst (kvs.map fun p => kyD p.1))
      | .len => some (.int kvs.length)
      | .sorted => (keysI kvs).bind fun is => if is.length < 64 then some (.lst ((srtI is).map .int)) else none
      | _ => none
    | none => (peeks S vs).bind fun xs => biD b xs
  | vs => (peeks S vs).bind fun xs => biD b xs
/-- a text -/
def SS (l : List Nat) : PySem.Str := ⟨l.toArray⟩
mutual
/-- data as the library tells it -/
def toPy : D → PySem.PyData
  | .non => .none
  | .bl b => .bool b
  | .int i => .int i
  | .str s => .str (SS s)
  | .tup ds => .tuple (toPys ds)
  | .lst ds => .list (toPys ds)
def toPys : List D → List PySem.PyData
  | [] => []
  | d :: ds => toPy d :: toPys ds
end
/-- names set, one behind the other -/
def setAll : Loc → List Nat → List Vl → Loc
  | l, i :: is, v :: vs => setAll (l.set i (some v)) is vs
  | l, _, _ => l
/-- repr of data -/
def reprD (d : D) : Option (List Nat) :=
  if (toPy d).showable && (decide ((toPy d).depth ≤ 60) && (decide ((toPy d).shown.cps.toList.length ≤ lim) && (toPy d).shown.cps.toList.all fun c => decide (c < 0x110000))) then some (toPy d).shown.cps.toList else none
def rprV : List Vl → Option D
  | [.d (.str _)] => none
  | [.d x] => (reprD x).map .str
  | _ => none
def biV : Bi → List Vl → Sto → Option D
  | .repr, vs, _ => rprV vs
  | b, vs, S => biW b vs S
def mtTyp : Mt → Ty
  | .append => .lst | .extend => .lst | .pop => .lst | .pop0 => .lst | .lidx => .lst | .lcnt => .lst | .get => .dic
  | .sidx => .str | .join => .str | .split => .str | .replace => .str
def slcV (v : Vl) (p q : Option Int) (S : Sto) : R Vl :=
  match v with
  | .scr ds => .ok (.d (.lst (cut ds p q))) S
  | v => R.opt ((peek S v).bind fun x => slcD x p q) fun z => .ok (.d z) S
def mtApp (v : Vl) (vs : List Vl) (S : Sto) : R Vl :=
  match v, vs with
  | .ref n, [w] => R.opt (take S w) fun p => match (p.2 : List Cell)[n]? with
    | some (.lst ds) => if ds.length < lim then .ok (.d .non) (p.2.set n (.lst (ds ++ [p.1]))) else .stuck
    | _ => .stuck
  | _, _ => .stuck
def mtExt (v : Vl) (vs : List Vl) (S : Sto) : R Vl :=
  match v, vs with
  | .ref n, [w] => match (S : List Cell)[n]?, peek S w with
    | some (.lst ds), some (.lst zs) => if ds.length + zs.length ≤ lim then .ok (.d .non) (S.set n (.lst (ds ++ zs))) else .stuck
    | _, _ => .stuck
  | _, _ => .stuck
def mtPop (v : Vl) (vs : List Vl) (S : Sto) : R Vl :=
  match v, vs with
  | .ref n, [] => match (S : List Cell)[n]? with
    | some (.lst ds) => match ds[ds.length - 1]? with
      | some x => .ok (.d x) (S.set n (.lst ds.dropLast))
      | none => .stuck
    | _ => .stuck
  | _, _ => .stuck
def mtPop0 (v : Vl) (vs : List Vl) (S : Sto) : R Vl :=
  match v, vs with
  | .ref n, [.d (.int i)] => match (S : List Cell)[n]? with
    | some (.lst ds) => if i = 0 then match ds with
        | x :: r => .ok (.d x) (S.set n (.lst r))
        | [] => .stuck
      else .stuck
    | _ => .stuck
  | _, _ => .stuck
/-- d.get(k, x) -/
def mtGet (v : Vl) (vs : List Vl) (S : Sto) : R Vl :=
  match dicOf S v, vs with
  | some kvs, [.d k, .d x] => R.opt (kyOf k) fun y => .ok (.d ((valA kvs y).getD x)) S
  | _, _ => .stuck
def mtPure (m : Mt) (v : Vl) (vs : List Vl) (S : Sto) : R Vl :=
  match peek S v, peeks S vs with
  | some x, some xs => R.opt (mtD m x xs) fun z => .ok (.d z) S
  | _, _ => .stuck
def mtV (m : Mt) (v : Vl) (vs : List Vl) (S : Sto) : R Vl :=
  match m with
  | .append => mtApp v vs S
  | .extend => mtExt v vs S
  | .pop => mtPop v vs S
  | .pop0 => mtPop0 v vs S
  | .get => mtGet v vs S
  | m => mtPure m v vs S
/-- a display of a table -/
def dctR (ds : List D) (S : Sto) : R Vl :=
  match pairsA ds with
  | some kvs => .ok (.ref S.length) (S ++ [.dic (kvs.foldl (fun a q => putA a q.1 q.2) [])])
  | none => match ds with
    | [k, x] => R.opt (keyT k) fun y => .ok (.ref S.length) (S ++ [.dit [(y, x)]])
    | _ => .stuck
/-- what the names hold that a lambda takes along -/
def capsOf (l : Loc) : List Nat → Option (List Vl)
  | [] => some []
  | i :: is => match l[i]?, capsOf l is with
    | some (some v), some vs => some (v :: vs)
    | _, _ => none
mutual
def evE (V : Env) : LE → Loc → Sto → R Vl
  | .lit d, _, S => .ok (.d d) S
  | .var i, l, S => match l[i]? with
    | some (some v) => .ok v S
    | _ => .stuck
  | .glob _ v, _, S => .ok v S
  | .op o a b, l, S => (evE V a l S).bind fun v S1 => (evE V b l S1).bind fun w S2 =>
      match peek S2 v, peek S2 w with
      | some x, some y => R.opt (opD o x y) fun z => .ok (.d z) S2
      | _, _ => .stuck
  | .neg a, l, S => (evE V a l S).bind fun v S1 => match v with
      | .d (.int i) => .ok (.d (.int (-i))) S1
      | _ => .stuck
  | .not a, l, S => (evE V a l S).bind fun v S1 => R.opt (asBool v) fun b => .ok (.d (.bl (!b))) S1
  | .and a b, l, S => (evE V a l S).bind fun v S1 => R.opt (asBool v) fun c => if c then (evE V b l S1).bind fun w S2 => R.opt (asBool w) fun d => .ok (.d (.bl d)) S2 else .ok (.d (.bl false)) S1
  | .or a b, l, S => (evE V a l S).bind fun v S1 => R.opt (asBool v) fun c => if c then .ok (.d (.bl true)) S1 else (evE V b l S1).bind fun w S2 => R.opt (asBool w) fun d => .ok (.d (.bl d)) S2
  | .cmp o a b, l, S => (evE V a l S).bind fun v S1 => (evE V b l S1).bind fun w S2 => R.opt (cmV o v w S2) fun c => .ok (.d (.bl c)) S2
  | .chain o p a b c, l, S => (evE V a l S).bind fun v S1 => (evE V b l S1).bind fun w S2 => R.opt (cmV o v w S2) fun k =>
      if k then (evE V c l S2).bind fun u S3 => R.opt (cmV p w u S3) fun m => .ok (.d (.bl m)) S3 else .ok (.d (.bl false)) S2
  | .ife c a b, l, S => (evE V c l S).bind fun v S1 => R.opt (asBool v) fun k => if k then evE V a l S1 else evE V b l S1
  | .tup es, l, S => (evEs V es l S).bind fun vs S1 => R.opt (takes S1 vs) fun p => .ok (.d (.tup p.1)) p.2
  | .lst es, l, S => (evEs V es l S).bind fun vs S1 => R.opt (takes S1 vs) fun p => .ok (.d (.lst p.1)) p.2
  | .thaw e, l, S => (evE V e l S).bind fun v S1 => match v with
      | .d (.lst ds) => .ok (.ref S1.length) (S1 ++ [.lst ds])
      | _ => .stuck
  | .frz e, l, S => (evE V e l S).bind fun v S1 => R.opt (take S1 v) fun p => .ok (.d p.1) p.2
  | .idx a i, l, S => (evE V a l S).bind fun v S1 => (evE V i l S1).bind fun w S2 => R.opt (idxV v w S2) fun z => .ok (.d z) S2
  | .slc a lo hi, l, S => (evE V a l S).bind fun v S1 => (evO V lo l S1).bind fun p S2 => (evO V hi l S2).bind fun q S3 =>
      slcV v p q S3
  | .rev a, l, S => (evE V a l S).bind fun v S1 => match peek S1 v with
      | some x => R.opt (revD x) fun z => .ok (.d z) S1
      | _ => .stuck
  | .call f _ es, l, S => (evEs V es l S).bind fun vs S1 => V.cf f vs S1
  | .callv i es, l, S => match l[i]? with
      | some (some (.fnv f)) => (evEs V es l S).bind fun vs S1 => V.cf f vs S1
      | some (some (.clo f cs)) => (evEs V es l S).bind fun vs S1 => if vs.all plainV then V.cf f (cs ++ vs) S1 else .stuck
      | _ => .stuck
  | .bi b es, l, S => (evEs V es l S).bind fun vs S1 => R.opt (biV b vs S1) fun z => .ok (.d z) S1
  | .mt m o es, l, S => (evE V o l S).bind fun v S1 => if isTy (mtTyp m) v S1 = some true then (evEs V es l S1).bind fun vs S2 => mtV m v vs S2 else .stuck
  | .isi e t, l, S => (evE V e l S).bind fun v S1 => R.opt (isTy t v S1) fun b => .ok (.d (.bl b)) S1
  | .isx i _ c, l, S => match l[i]? with
      | some (some (.exn k _)) => R.opt (V.sub k c) fun b => .ok (.d (.bl b)) S
      | _ => .stuck
  | .comp elt g t c own, l, S => (evI V g l S).bind fun src S1 =>
      (compR t (evC V c) (evE V elt) (wipeL l own) src S1).bind fun ds S2 => .ok (.d (.lst ds)) S2
  | .dct es, l, S => (evEs V es l S).bind fun vs S1 => R.opt (takes S1 vs) fun p => dctR p.1 p.2
  | .lzip a b, l, S => (evE V a l S).bind fun v S1 => (evE V b l S1).bind fun w S2 => match v, w with
      | .d (.tup xs), .d (.tup ys) => .ok (.d (.lst (zipD xs ys))) S2
      | _, _ => .stuck
  | .dcomp _ _ _ _ _, _, _ => .stuck
  | .lam f caps, l, S => R.opt (capsOf l caps) fun vs => if vs.all plainV then .ok (.clo f vs) S else .stuck
def evEs (V : Env) : LEs → Loc → Sto → R (List Vl)
  | .nil, _, S => .ok [] S
  | .cons e es, l, S => (evE V e l S).bind fun v S1 => (evEs V es l S1).bind fun vs S2 => .ok (v :: vs) S2
/-- a part of a slice -/
def evO (V : Env) : LO → Loc → Sto → R (Option Int)
  | .no, _, S => .ok none S
  | .yes e, l, S => (evE V e l S).bind fun v S1 => match v with
      | .d (.int i) => .ok (some i) S1
      | _ => .stuck
/-- a condition -/
def evC (V : Env) : LO → Loc → Sto → R Bool
  | .no, _, S => .ok true S
  | .yes e, l, S => (evE V e l S).bind fun v S1 => R.opt (asBool v) fun b => .ok b S1
def evI (V : Env) : LI → Loc → Sto → R Src
  | .val e, l, S => (evE V e l S).bind fun v S1 => match v with
      | .d x => R.opt (seqD x) fun ds => .ok (.items ds) S1
      | .ref n => if liveL S1 n then .ok (.live n) S1 else R.opt (dicOf S1 (.ref n)) fun kvs => .ok (.items (kvs.map fun p => kyD p.1)) (S1.set n (.fzd kvs))
      | _ => .stuck
  | .rng1 a, l, S => (evE V a l S).bind fun v S1 => match v with
      | .d (.int j) => if wideI j then .ok (.items (rangeD 0 j)) S1 else .stuck
      | _ => .stuck
  | .rng2 a b, l, S => (evE V a l S).bind fun v S1 => (evE V b l S1).bind fun w S2 => match v, w with
      | .d (.int i), .d (.int j) => if wideI i && wideI j then .ok (.items (rangeD i j)) S2 else .stuck
      | _, _ => .stuck
  | .zip a b, l, S => (evE V a l S).bind fun v S1 => (evE V b l S1).bind fun w S2 => match v, w with
      | .d x, .d y => R.opt (seqD x) fun xs => R.opt (seqD y) fun ys => .ok (.items (zipD xs ys)) S2
      | _, _ => .stuck
  | .enm a, l, S => (evE V a l S).bind fun v S1 => match v with
      | .d x => R.opt (seqD x) fun xs => .ok (.items (enmD xs 0)) S1
      | _ => .stuck
end
/-! ### statements -/
inductive RS where
  | nx (l : Loc) (S : Sto) | ret (v : Vl) (S : Sto) | bk (l : Loc) (S : Sto) | ct (l : Loc) (S : Sto) | exc (c : Nat) (xs : List D) (l : Loc) (S : Sto) | stuck
def R.st {α : Type} (l : Loc) : R α → (α → Sto → RS) → RS
  | .ok a S, f => f a S
  | .exc c xs S, _ => .exc c xs l S
  | .stuck, _ => .stuck
@[simp] theorem R.st_ok {α : Type} (l : Loc) (a : α) (S : Sto) (f : α → Sto → RS) : (R.ok a S).st l f = f a S := rfl
@[simp] theorem R.st_exc {α : Type} (l : Loc) (c : Nat) (xs : List D) (S : Sto) (f : α → Sto → RS) : (R.exc c xs S : R α).st l f = .exc c xs l S := rfl
@[simp] theorem R.st_stuck {α : Type} (l : Loc) (f : α → Sto → RS) : (R.stuck : R α).st l f = .stuck := rfl
def RS.opt {α : Type} : Option α → (α → RS) → RS
  | some a, f => f a
  | none, _ => .stuck
@[simp] theorem RS.opt_some {α : Type} (a : α) (f : α → RS) : RS.opt (some a) f = f a := rfl
@[simp] theorem RS.opt_none {α : Type} (f : α → RS) : RS.opt none f = .stuck := rfl
def forGo (t : LT) (b : Loc → Sto → RS) : List D → Loc → Sto → RS
  | [], l, S => .nx l S
  | x :: xs, l, S => match setT t x l with
    | none => .stuck
    | some l' => match b l' S with
      | .nx l2 S2 => forGo t b xs l2 S2
      | .ct l2 S2 => forGo t b xs l2 S2
      | .bk l2 S2 => .nx l2 S2
      | r => r
def forRef (t : LT) (b : Loc → Sto → RS) (n : Nat) : Nat → Nat → Loc → Sto → RS
  | 0, _, _, _ => .stuck
  | k + 1, i, l, S => match (S : List Cell)[n]? with
    | some (.lst ds) => match ds[i]? with
      | none => .nx l S
      | some x => match setT t x l with
        | none => .stuck
        | some l' => match b l' S with
          | .nx l2 S2 => forRef t b n k (i + 1) l2 S2
          | .ct l2 S2 => forRef t b n k (i + 1) l2 S2
          | .bk l2 S2 => .nx l2 S2
          | r => r
    | _ => .stuck
def forR (t : LT) (b : Loc → Sto → RS) (src : Src) (l : Loc) (S : Sto) (wf : Nat) : RS :=
  match src with
  | .items ds => forGo t b ds l S
  | .live n => forRef t b n wf 0 l S
def whileGo (c : Loc → Sto → R Bool) (b : Loc → Sto → RS) : Nat → Loc → Sto → RS
  | 0, _, _ => .stuck
  | k + 1, l, S => (c l S).st l fun t S1 => if t then
      match b l S1 with
      | .nx l2 S2 => whileGo c b k l2 S2
      | .ct l2 S2 => whileGo c b k l2 S2
      | .bk l2 S2 => .nx l2 S2
      | r => r
    else .nx l S1
def noX : Vl → Bool
  | .exn _ _ => false
  | _ => true
def noXl (l : Loc) : Bool := l.all fun o => match o with
  | some v => noX v
  | none => true
def subC (l : Loc) (n : Nat) (kd x : D) (S : Sto) : RS :=
  match (S : List Cell)[n]? with
  | some (.lst ds) => match kd with
    | .int j => RS.opt (ixI ds.length j) fun m => .nx l (S.set n (.lst (ds.set m x)))
    | _ => .stuck
  | some (.dic kvs) => RS.opt (kyOf kd) fun y => if kvs.length < lim then .nx l (S.set n (.dic (putA kvs y x))) else .stuck
  | some (.dit kvs) => RS.opt (keyT kd) fun y => if kvs.length < lim then .nx l (S.set n (.dit (putA kvs y x))) else .stuck
  | _ => .stuck
mutual
def evS (V : Env) : LS → Loc → Sto → RS
  | .pass, l, S => .nx l S
  | .asg t e, l, S => (evE V e l S).st l fun v S1 => RS.opt (setTV t v S1 l) fun l' => .nx l' S1
  | .par i j a b, l, S => (evE V a l S).st l fun v S1 => (evE V b l S1).st l fun w S2 => .nx ((l.set i (some v)).set j (some w)) S2
  | .parN is es, l, S => (evEs V es l S).st l fun vs S1 => if vs.length = is.length then .nx (setAll l is vs) S1 else .stuck
  | .par3 i j k a b d, l, S => (evE V a l S).st l fun v S1 => (evE V b l S1).st l fun w S2 => (evE V d l S2).st l fun u S3 => .nx (((l.set i (some v)).set j (some w)).set k (some u)) S3
  | .never, _, _ => .stuck
  | .sub a i e, l, S => (evE V e l S).st l fun v S1 => (evE V a l S1).st l fun o S2 => (evE V i l S2).st l fun k S3 =>
      match o, k with
      | .ref n, .d kd => RS.opt (take S3 v) fun p => subC l n kd p.1 p.2
      | _, _ => .stuck
  | .ex e, l, S => (evE V e l S).st l fun _ S1 => .nx l S1
  | .ife c a b, l, S => (evE V c l S).st l fun v S1 => RS.opt (asBool v) fun k => if k then evSs V a l S1 else evSs V b l S1
  | .for_ t g b, l, S => (evI V g l S).st l fun src S1 => forR t (evSs V b) src l S1 V.wf
  | .while_ c b, l, S => whileGo (fun l S => (evE V c l S).bind fun v S1 => R.opt (asBool v) fun k => .ok k S1) (evSs V b) V.wf l S
  | .ret e, l, S => (evE V e l S).st l fun v S1 => RS.opt (take S1 v) fun p => .ret (.d p.1) p.2
  | .retk e, l, S => (evE V e l S).st l fun v S1 => .ret v S1
  | .retn, _, S => .ret (.d .non) S
  | .raise c _ es, l, S => (evEs V es l S).st l fun vs S1 => RS.opt (takes S1 vs) fun p => .exc c p.1 l p.2
  | .try_ b c _ j h, l, S => match evSs V b l S with
      | .exc k xs l' S' => match V.sub k c with
        | some true => match evSs { V with cf := fun _ _ _ => .stuck } h (l'.set j (some (.exn k xs))) S' with
          | .nx l2 S2 => if noXl (l2.set j none) then .nx (l2.set j none) S2 else .stuck
          | .ret v S2 => if noX v then .ret v S2 else .stuck
          | _ => .stuck
        | some false => .exc k xs l' S'
        | none => .stuck
      | r => r
def evSs (V : Env) : LSs → Loc → Sto → RS
  | .nil, l, S => .nx l S
  | .cons s ss, l, S => match evS V s l S with
    | .nx l' S' => evSs V ss l' S'
    | r => r
end
/-! ### functions -/
structure Fn where
  np : Nat
  nl : Nat
  body : LSs
def keepS (k : Nat) (v : Vl) (S : Sto) : R Vl :=
  match v with
  | .d x => .ok (.d x) (S.take k)
  | .ref n => if n < k then .ok (.ref n) (S.take k) else .ok (.ref n) S
  | _ => .stuck
def runF (V : Env) (F : Fn) (vs : List Vl) (S : Sto) : R Vl :=
  if vs.length = F.np then
    match evSs V F.body (vs.map some ++ List.replicate (F.nl - F.np) none) S with
    | .nx _ S' => .ok (.d .non) (S'.take S.length)
    | .ret v S' => keepS S.length v S'
    | .exc c xs _ S' => .exc c xs (S'.take S.length)
    | _ => .stuck
  else .stuck
def callN (T : List Fn) (sub : Nat → Nat → Option Bool) (wf : Nat) : Nat → Nat → List Vl → Sto → R Vl
  | 0, _, _, _ => .stuck
  | n + 1, f, vs, S => match T[f]? with
    | some F => runF ⟨callN T sub wf n, wf, sub⟩ F vs S
    | none => .stuck
end EV
end

section
set_option Elab.async false
set_option linter.all false
set_option maxRecDepth 100000
set_option maxHeartbeats 1000000
/-! EV2: how data, store and names lie in the abstract heap -/
namespace EV
open PySem PySem.Spec PyProof.Rows L2
theorem SS_length (l : List Nat) : (SS l).length = l.length := by simp [SS, Str.length]
theorem SS_app (a b : List Nat) : SS a ++ SS b = SS (a ++ b) := by
  show Str.mk _ = _
  simp [SS]
theorem SS_inj {a b : List Nat} (h : SS a = SS b) : a = b := by simpa [SS] using h
def okS (l : List Nat) : Prop := ∀ c ∈ l, c < 0x110000
theorem okS.strOk {l : List Nat} (h : okS l) : PySem.PyData.strOk (SS l) = true := by
  unfold PySem.PyData.strOk SS
  simp only [List.all_toArray, List.all_eq_true, decide_eq_true_eq]
  exact h
/-- a lambda of the text -/
structure LamI where
  params : Arguments
  body : Expr
  scope : Scope
  caps : List Str
  dfl : Nat
/-- what is fixed through a law -/
structure Glb where
  lam : Nat → LamI → Prop
  K : PySem.W.Frag
  fa : Nat → Option Addr
  ca : Nat → Option Value
  tabs : List (Addr × Str)
  ex : Option (Addr × Nat)
/-- a state: hidden addresses, the store's addresses, the store, the abstract heap -/
structure G where
  hid : List Addr
  ρ : List Addr
  S : Sto
  H : Hp
def Cell.isLive : Cell → Bool
  | .fzn _ => false
  | .fzd _ => false
  | _ => true
/-- may still be changed -/
def live (g : G) (a : Addr) : Prop := a ∈ g.hid ∨ ∃ (n : Nat) (x : Cell), g.ρ[n]? = some a ∧ (g.S : List Cell)[n]? = some x ∧ x.isLive = true
/-- a tuple: tracked, or a constant of the module (none of ints alone) -/
def TupAt (K : PySem.W.Frag) (H : Hp) (a : Addr) (ds : List D) (xs : List V) : Prop :=
  H a = some (.tup xs) ∨ (intsOf ds = none ∧ ∃ (o : Obj) (its : Array Value) (n : Nat), K.lookup a = some o ∧ o.cls = .type "tuple" ∧ o.data = .seq its n ∧ its.size ≤ sizeLine ∧ Vals xs its.toList)
theorem TupAt.sq {K : PySem.W.Frag} {H : Hp} {a : Addr} {ds : List D} {xs : List V} (h : TupAt K H a ds xs) : SqT K H a xs := h.elim (fun e => .inl (.inl e)) fun e => .inr e.2
mutual
inductive Rep (K : PySem.W.Frag) (L : Addr → Prop) (H : Hp) : D → V → Prop
  | non : Rep K L H .non .non
  | bl (b : Bool) : Rep K L H (.bl b) (.bl b)
  | int (i : Int) : Rep K L H (.int i) (.int i)
  | str {s : List Nat} : okS s → Rep K L H (.str s) (.str (SS s))
  | tup {a : Addr} {ds : List D} {vs : List V} : TupAt K H a ds vs → ds.length ≤ lim → Reps K L H ds vs → Rep K L H (.tup ds) (.ref a)
  | lst {a : Addr} {ds : List D} {vs : List V} : H a = some (.lst vs) → ¬ L a → ds.length ≤ lim → Reps K L H ds vs → Rep K L H (.lst ds) (.ref a)
inductive Reps (K : PySem.W.Frag) (L : Addr → Prop) (H : Hp) : List D → List V → Prop
  | nil : Reps K L H [] []
  | cons {d : D} {v : V} {ds : List D} {vs : List V} : Rep K L H d v → Reps K L H ds vs → Reps K L H (d :: ds) (v :: vs)
end
theorem Reps.length {K : PySem.W.Frag} {L : Addr → Prop} {H : Hp} : ∀ {ds : List D} {vs : List V}, Reps K L H ds vs → ds.length = vs.length
  | _, _, .nil => rfl
  | _, _, .cons _ t => by simp [Reps.length t]
theorem Reps.app {K : PySem.W.Frag} {L : Addr → Prop} {H : Hp} : ∀ {ds es : List D} {vs ws : List V}, Reps K L H ds vs → Reps K L H es ws → Reps K L H (ds ++ es) (vs ++ ws)
  | _, _, _, _, .nil, s => s
  | _, _, _, _, .cons r t, s => .cons r (Reps.app t s)
theorem Reps.get {K : PySem.W.Frag} {L : Addr → Prop} {H : Hp} : ∀ {ds : List D} {vs : List V} {i : Nat} {d : D}, Reps K L H ds vs → ds[i]? = some d → ∃ v, vs[i]? = some v ∧ Rep K L H d v
  | _, _, _, _, .nil, e => by simp at e
  | _, _, 0, _, .cons r _, e => by simp at e; subst e; exact ⟨_, rfl, r⟩
  | _, _, i + 1, d, .cons _ t, e => by
    obtain ⟨v, h1, h2⟩ := Reps.get (i := i) (d := d) t (by simpa using e)
    exact ⟨v, by simpa using h1, h2⟩
theorem Reps.get' {K : PySem.W.Frag} {L : Addr → Prop} {H : Hp} : ∀ {ds : List D} {vs : List V} {i : Nat} {v : V}, Reps K L H ds vs → vs[i]? = some v → ∃ d, ds[i]? = some d ∧ Rep K L H d v
  | _, _, _, _, .nil, e => by simp at e
  | _, _, 0, _, .cons r _, e => by simp at e; subst e; exact ⟨_, rfl, r⟩
  | _, _, i + 1, d, .cons _ t, e => by
    obtain ⟨v, h1, h2⟩ := Reps.get' (i := i) (v := d) t (by simpa using e)
    exact ⟨v, by simpa using h1, h2⟩
theorem Reps.take {K : PySem.W.Frag} {L : Addr → Prop} {H : Hp} : ∀ {ds : List D} {vs : List V} (n : Nat), Reps K L H ds vs → Reps K L H (ds.take n) (vs.take n)
  | _, _, 0, _ => by simp; exact .nil
  | _, _, _ + 1, .nil => by simp; exact .nil
  | _, _, n + 1, .cons r t => by simp; exact .cons r (Reps.take n t)
theorem Reps.drop {K : PySem.W.Frag} {L : Addr → Prop} {H : Hp} : ∀ {ds : List D} {vs : List V} (n : Nat), Reps K L H ds vs → Reps K L H (ds.drop n) (vs.drop n)
  | _, _, 0, r => by simpa using r
  | _, _, _ + 1, .nil => by simp; exact .nil
  | _, _, n + 1, .cons r t => by simp; exact Reps.drop n t
theorem Reps.set {K : PySem.W.Frag} {L : Addr → Prop} {H : Hp} {x : D} {w : V} (q : Rep K L H x w) : ∀ {ds : List D} {vs : List V} (n : Nat), Reps K L H ds vs → Reps K L H (ds.set n x) (vs.set n w)
  | _, _, _, .nil => by simp; exact .nil
  | _, _, 0, .cons r t => by simp; exact .cons q t
  | _, _, n + 1, .cons r t => by simp; exact .cons r (Reps.set q n t)
theorem Reps.rev {K : PySem.W.Frag} {L : Addr → Prop} {H : Hp} : ∀ {ds : List D} {vs : List V}, Reps K L H ds vs → Reps K L H ds.reverse vs.reverse
  | _, _, .nil => by simp; exact .nil
  | _, _, .cons r t => by
    simp only [List.reverse_cons]
    exact (Reps.rev t).app (.cons r .nil)
theorem Reps.flat {K : PySem.W.Frag} {L : Addr → Prop} {H : Hp} {ds : List D} {vs : List V} (r : Reps K L H ds vs) : ∀ n : Nat, Reps K L H (List.replicate n ds).flatten (List.replicate n vs).flatten
  | 0 => by simp; exact .nil
  | n + 1 => by
    simp only [List.replicate_succ, List.flatten_cons]
    exact r.app (Reps.flat r n)
/-- one state's heap leads on to another's: what may not be changed stands, and may not be changed -/
structure Mo (L : Addr → Prop) (H : Hp) (L' : Addr → Prop) (H' : Hp) : Prop where
  keep : ∀ a o, H a = some o → ¬ L a → (∀ ps, o ≠ .tbl ps) → H' a = some o ∧ ¬ L' a
  lv : ∀ a, L a → (∃ xs, H a = some (.lst xs)) ∨ (∃ kvs, H a = some (.dK kvs)) ∨ ∃ kvs, H a = some (.dT kvs)
section
variable {K : PySem.W.Frag} {L L' : Addr → Prop} {H H' : Hp}
theorem Mo.tup (m : Mo L H L' H') {a : Addr} {ds : List D} {vs : List V} (h : TupAt K H a ds vs) : TupAt K H' a ds vs := by
  rcases h with h | h
  · refine .inl (m.keep a _ h (fun z => ?_) (fun ps z => by cases z)).1
    rcases m.lv a z with ⟨_, e⟩ | ⟨_, e⟩ | ⟨_, e⟩ <;> rw [h] at e <;> cases e
  · exact .inr h
theorem Mo.sql (m : Mo L H L' H') {a : Addr} {vs : List V} (h : SqL K H a vs) (n : ¬ L a) : SqL K H' a vs := by
  rcases h with (h | ⟨o, h⟩) | h
  · exact .inl (.inl (m.keep a _ h n (fun ps z => by cases z)).1)
  · exact .inl (.inr ⟨o, (m.keep a _ h n (fun ps z => by cases z)).1⟩)
  · exact .inr h
mutual
theorem Rep.mo (m : Mo L H L' H') : ∀ (d : D) (v : V), Rep K L H d v → Rep K L' H' d v
  | .non, _, h => by cases h; exact .non
  | .bl b, _, h => by cases h; exact .bl b
  | .int i, _, h => by cases h; exact .int i
  | .str s, _, h => by cases h with | str o => exact .str o
  | .tup ds, _, h => by
    cases h with
    | tup hs hl hr => exact .tup (m.tup hs) hl (Reps.mo m ds _ hr)
  | .lst ds, _, h => by
    cases h with
    | lst ha hn hl hr =>
      obtain ⟨h1, h2⟩ := m.keep _ _ ha hn (fun ps z => by cases z)
      exact .lst h1 h2 hl (Reps.mo m ds _ hr)
theorem Reps.mo (m : Mo L H L' H') : ∀ (ds : List D) (vs : List V), Reps K L H ds vs → Reps K L' H' ds vs
  | [], _, h => by cases h; exact .nil
  | d :: ds, _, h => by
    cases h with
    | cons h1 h2 => exact .cons (Rep.mo m d _ h1) (Reps.mo m ds _ h2)
end
end
/-! tables as they lie -/
def toK : Ky → Key
  | .i k => .inl k
  | .s x => .inr (SS x)
def okK : Ky → Prop
  | .i _ => True
  | .s x => okS x
theorem toK_inj {a b : Ky} (h : toK a = toK b) : a = b := by
  cases a <;> cases b <;> first | (cases h; rfl) | cases h
inductive RepKs (K : PySem.W.Frag) (L : Addr → Prop) (H : Hp) : List (Ky × D) → List (Key × V) → Prop
  | nil : RepKs K L H [] []
  | cons {k : Ky} {d : D} {w : V} {ks : List (Ky × D)} {vs : List (Key × V)} : okK k → Rep K L H d w → RepKs K L H ks vs → RepKs K L H ((k, d) :: ks) ((toK k, w) :: vs)
theorem RepKs.length {K : PySem.W.Frag} {L : Addr → Prop} {H : Hp} : ∀ {ks : List (Ky × D)} {vs : List (Key × V)}, RepKs K L H ks vs → ks.length = vs.length
  | _, _, .nil => rfl
  | _, _, .cons _ _ t => by simp [RepKs.length t]
theorem RepKs.mo {K : PySem.W.Frag} {L L' : Addr → Prop} {H H' : Hp} (m : Mo L H L' H') : ∀ {ks : List (Ky × D)} {vs : List (Key × V)}, RepKs K L H ks vs → RepKs K L' H' ks vs
  | _, _, .nil => .nil
  | _, _, .cons o r t => .cons o (Rep.mo m _ _ r) (RepKs.mo m t)
theorem RepKs.app {K : PySem.W.Frag} {L : Addr → Prop} {H : Hp} : ∀ {ks ks' : List (Ky × D)} {vs vs' : List (Key × V)}, RepKs K L H ks vs → RepKs K L H ks' vs' → RepKs K L H (ks ++ ks') (vs ++ vs')
  | _, _, _, _, .nil, s => s
  | _, _, _, _, .cons o r t, s => .cons o r (RepKs.app t s)
theorem RepKs.val {K : PySem.W.Frag} {L : Addr → Prop} {H : Hp} (k : Ky) : ∀ {ks : List (Ky × D)} {vs : List (Key × V)}, RepKs K L H ks vs → (valA ks k = none ∧ valV vs (toK k) = none) ∨ ∃ x w, valA ks k = some x ∧ valV vs (toK k) = some w ∧ Rep K L H x w
  | _, _, .nil => .inl ⟨rfl, rfl⟩
  | _, _, .cons (k := j) (d := d) (w := w) (ks := ks) (vs := vs) o r t => by
    by_cases e : j = k
    · subst e
      exact .inr ⟨d, w, by simp [valA, List.find?_cons], valV_pos rfl, r⟩
    · have e2 : ¬ toK j = toK k := fun z => e (toK_inj z)
      have q1 : valA ((j, d) :: ks) k = valA ks k := by simp [valA, List.find?_cons, e]
      rw [q1, valV_neg (p := (toK j, w)) e2]
      exact RepKs.val k t
theorem RepKs.repl {K : PySem.W.Frag} {L : Addr → Prop} {H : Hp} {k : Ky} {x : D} {w : V} (r : Rep K L H x w) : ∀ {ks : List (Ky × D)} {vs : List (Key × V)}, RepKs K L H ks vs → RepKs K L H (ks.map fun kv => if kv.1 = k then (kv.1, x) else kv) (vs.map fun kv => if kv.1 = toK k then (kv.1, w) else kv)
  | _, _, .nil => .nil
  | _, _, .cons (k := j) o r0 t => by
    rw [List.map_cons, List.map_cons]
    by_cases e : j = k
    · subst e
      simp only [if_true]
      exact .cons o r (RepKs.repl r t)
    · have e2 : ¬ toK j = toK k := fun z => e (toK_inj z)
      simp only [if_neg e, if_neg e2]
      exact .cons o r0 (RepKs.repl r t)
theorem RepKs.any {K : PySem.W.Frag} {L : Addr → Prop} {H : Hp} (k : Ky) : ∀ {ks : List (Ky × D)} {vs : List (Key × V)}, RepKs K L H ks vs → (ks.any fun kv => decide (kv.1 = k)) = (vs.any fun kv => decide (kv.1 = toK k))
  | _, _, .nil => rfl
  | _, _, .cons (k := j) o r t => by
    rw [List.any_cons, List.any_cons, RepKs.any k t]
    have e : decide (j = k) = decide (toK j = toK k) := by
      by_cases e : j = k
      · subst e; simp
      · rw [decide_eq_false e, decide_eq_false (fun z => e (toK_inj z))]
    show (decide (j = k) || _) = (decide (toK j = toK k) || _)
    rw [e]
theorem RepKs.put {K : PySem.W.Frag} {L : Addr → Prop} {H : Hp} {k : Ky} {x : D} {w : V} (o : okK k) (r : Rep K L H x w) {ks : List (Ky × D)} {vs : List (Key × V)} (t : RepKs K L H ks vs) : RepKs K L H (putA ks k x) (putK vs (toK k) w) := by
  unfold putA putK
  rw [RepKs.any k t]
  split
  · exact t.repl r
  · exact t.app (.cons o r .nil)
theorem putA_len {κ β : Type} [DecidableEq κ] {ks : List (κ × β)} {k : κ} {x : β} : (putA ks k x).length ≤ ks.length + 1 := by
  unfold putA
  split <;> simp
theorem RepKs.fold {K : PySem.W.Frag} {L : Addr → Prop} {H : Hp} : ∀ {ms : List (Ky × D)} {ns : List (Key × V)} {ks : List (Ky × D)} {vs : List (Key × V)}, RepKs K L H ms ns → RepKs K L H ks vs → RepKs K L H (ms.foldl (fun a q => putA a q.1 q.2) ks) (mergeK vs ns)
  | _, _, _, _, .nil, t => t
  | _, _, _, _, .cons o r ms, t => by
    have q := RepKs.fold ms (t.put o r)
    exact q
theorem fold_len : ∀ {ms ks : List (Ky × D)}, (ms.foldl (fun a q => putA a q.1 q.2) ks).length ≤ ks.length + ms.length
  | [], ks => by simp
  | m :: ms, ks => by
    have h1 := fold_len (ms := ms) (ks := putA ks m.1 m.2)
    have h2 := putA_len (ks := ks) (k := m.1) (x := m.2)
    rw [List.foldl_cons, List.length_cons]
    omega
theorem RepKs.keys {K : PySem.W.Frag} {L : Addr → Prop} {H : Hp} : ∀ {ks : List (Ky × D)} {vs : List (Key × V)}, RepKs K L H ks vs → Reps K L H (ks.map fun p => kyD p.1) (vs.map fun kv => kV kv.1)
  | _, _, .nil => .nil
  | _, _, .cons (k := j) o r t => by
    rw [List.map_cons, List.map_cons]
    refine .cons ?_ (RepKs.keys t)
    cases j with
    | i k => exact .int k
    | s x => exact .str o
inductive RepTs (K : PySem.W.Frag) (L : Addr → Prop) (H : Hp) : List (List Int × D) → List (List Key × V) → Prop
  | nil : RepTs K L H [] []
  | cons {k : List Int} {d : D} {w : V} {ks : List (List Int × D)} {vs : List (List Key × V)} : Rep K L H d w → RepTs K L H ks vs → RepTs K L H ((k, d) :: ks) ((k.map Sum.inl, w) :: vs)
theorem inls_inj : ∀ {a b : List Int}, (a.map Sum.inl : List Key) = b.map Sum.inl → a = b
  | [], [], _ => rfl
  | [], _ :: _, h => by simp at h
  | _ :: _, [], h => by simp at h
  | x :: a, y :: b, h => by
    simp only [List.map_cons, List.cons.injEq, Sum.inl.injEq] at h
    rw [h.1, inls_inj h.2]
theorem RepTs.length {K : PySem.W.Frag} {L : Addr → Prop} {H : Hp} : ∀ {ks : List (List Int × D)} {vs : List (List Key × V)}, RepTs K L H ks vs → ks.length = vs.length
  | _, _, .nil => rfl
  | _, _, .cons _ t => by simp [RepTs.length t]
theorem RepTs.mo {K : PySem.W.Frag} {L L' : Addr → Prop} {H H' : Hp} (m : Mo L H L' H') : ∀ {ks : List (List Int × D)} {vs : List (List Key × V)}, RepTs K L H ks vs → RepTs K L' H' ks vs
  | _, _, .nil => .nil
  | _, _, .cons r t => .cons (Rep.mo m _ _ r) (RepTs.mo m t)
theorem RepTs.app {K : PySem.W.Frag} {L : Addr → Prop} {H : Hp} : ∀ {ks ks' : List (List Int × D)} {vs vs' : List (List Key × V)}, RepTs K L H ks vs → RepTs K L H ks' vs' → RepTs K L H (ks ++ ks') (vs ++ vs')
  | _, _, _, _, .nil, s => s
  | _, _, _, _, .cons r t, s => .cons r (RepTs.app t s)
theorem RepTs.val {K : PySem.W.Frag} {L : Addr → Prop} {H : Hp} (k : List Int) : ∀ {ks : List (List Int × D)} {vs : List (List Key × V)}, RepTs K L H ks vs → (valA ks k = none ∧ valV vs (k.map Sum.inl) = none) ∨ ∃ x w, valA ks k = some x ∧ valV vs (k.map Sum.inl) = some w ∧ Rep K L H x w
  | _, _, .nil => .inl ⟨rfl, rfl⟩
  | _, _, .cons (k := j) (d := d) (w := w) (ks := ks) (vs := vs) r t => by
    by_cases e : j = k
    · subst e
      exact .inr ⟨d, w, by simp [valA, List.find?_cons], valV_pos rfl, r⟩
    · have e2 : ¬ (j.map Sum.inl : List Key) = k.map Sum.inl := fun z => e (inls_inj z)
      have q1 : valA ((j, d) :: ks) k = valA ks k := by simp [valA, List.find?_cons, e]
      rw [q1, valV_neg (p := (j.map Sum.inl, w)) e2]
      exact RepTs.val k t
theorem RepTs.repl {K : PySem.W.Frag} {L : Addr → Prop} {H : Hp} {k : List Int} {x : D} {w : V} (r : Rep K L H x w) : ∀ {ks : List (List Int × D)} {vs : List (List Key × V)}, RepTs K L H ks vs → RepTs K L H (ks.map fun kv => if kv.1 = k then (kv.1, x) else kv) (vs.map fun kv => if kv.1 = k.map Sum.inl then (kv.1, w) else kv)
  | _, _, .nil => .nil
  | _, _, .cons (k := j) r0 t => by
    rw [List.map_cons, List.map_cons]
    by_cases e : j = k
    · subst e
      simp only [if_true]
      exact .cons r (RepTs.repl r t)
    · have e2 : ¬ (j.map Sum.inl : List Key) = k.map Sum.inl := fun z => e (inls_inj z)
      simp only [if_neg e, if_neg e2]
      exact .cons r0 (RepTs.repl r t)
theorem RepTs.any {K : PySem.W.Frag} {L : Addr → Prop} {H : Hp} (k : List Int) : ∀ {ks : List (List Int × D)} {vs : List (List Key × V)}, RepTs K L H ks vs → (ks.any fun kv => decide (kv.1 = k)) = (vs.any fun kv => decide (kv.1 = k.map Sum.inl))
  | _, _, .nil => rfl
  | _, _, .cons (k := j) r t => by
    rw [List.any_cons, List.any_cons, RepTs.any k t]
    have e : decide (j = k) = decide ((j.map Sum.inl : List Key) = k.map Sum.inl) := by
      by_cases e : j = k
      · subst e; simp
      · rw [decide_eq_false e, decide_eq_false (fun z => e (inls_inj z))]
    show (decide (j = k) || _) = (decide ((j.map Sum.inl : List Key) = k.map Sum.inl) || _)
    rw [e]
theorem RepTs.put {K : PySem.W.Frag} {L : Addr → Prop} {H : Hp} {k : List Int} {x : D} {w : V} (r : Rep K L H x w) {ks : List (List Int × D)} {vs : List (List Key × V)} (t : RepTs K L H ks vs) : RepTs K L H (putA ks k x) (putK vs (k.map Sum.inl) w) := by
  unfold putA putK
  rw [RepTs.any k t]
  split
  · exact t.repl r
  · exact t.app (.cons r .nil)
theorem ints_rep {K : PySem.W.Frag} {L : Addr → Prop} {H : Hp} : ∀ {ds : List D} {vs : List V} {is : List Int}, intsOf ds = some is → Reps K L H ds vs → vs = (is.map Sum.inl : List Key).map kV
  | [], _, is, h, .nil => by cases h; rfl
  | d :: ds, _, is, h, .cons (v := v) (vs := vs) r t => by
    cases d with
    | int i =>
      cases r
      cases e : intsOf ds with
      | none => rw [intsOf, e] at h; cases h
      | some js =>
        rw [intsOf, e] at h
        cases h
        rw [ints_rep e t]
        rfl
    | _ => cases h
/-- a tuple of ints is tracked -/
theorem key_rep {K : PySem.W.Frag} {L : Addr → Prop} {H : Hp} {x : D} {v : V} {k : List Int} (h : keyT x = some k) (r : Rep K L H x v) : ∃ a, v = .ref a ∧ H a = some (.tup ((k.map Sum.inl : List Key).map kV)) := by
  cases x with
  | tup ds =>
    cases r with
    | tup hs hl hr =>
      have h : intsOf ds = some k := h
      refine ⟨_, rfl, ?_⟩
      rw [← ints_rep h hr]
      rcases hs with hs | hs
      · exact hs
      · rw [h] at hs; cases hs.1
  | _ => cases h
def CellOk (K : PySem.W.Frag) (L : Addr → Prop) (H : Hp) (a : Addr) : Cell → Prop
  | .lst ds => ∃ vs, H a = some (.lst vs) ∧ ds.length ≤ lim ∧ Reps K L H ds vs
  | .fzn ds => Rep K L H (.lst ds) (.ref a)
  | .dic kvs => ∃ vs : List (Key × V), H a = some (.dK vs) ∧ kvs.length ≤ lim ∧ RepKs K L H kvs vs
  | .fzd kvs => ∃ (o : Obj) (vs : List (Key × V)), H a = some (.frz o (.dK vs)) ∧ ¬ L a ∧ kvs.length ≤ lim ∧ RepKs K L H kvs vs
  | .dit kvs => ∃ vs : List (List Key × V), H a = some (.dT vs) ∧ kvs.length ≤ lim ∧ RepTs K L H kvs vs
structure GOk (c : Glb) (g : G) : Prop where
  len : g.ρ.length = g.S.length
  nd : g.ρ.Nodup
  apart : ∀ a ∈ g.hid, a ∉ g.ρ
  hid : ∀ a ∈ g.hid, (∃ xs, g.H a = some (.lst xs)) ∨ (∃ kvs, g.H a = some (.dK kvs)) ∨ ∃ kvs, g.H a = some (.dT kvs)
  cell : ∀ (n : Nat) (a : Addr) (x : Cell), g.ρ[n]? = some a → (g.S : List Cell)[n]? = some x → CellOk c.K (live g) g.H a x
  tabs : LamX.Tabs c.tabs g.H
structure Le (g g' : G) : Prop where
  pre : g.ρ <+: g'.ρ
  hid : g'.hid = g.hid
  hidk : ∀ a ∈ g.hid, g'.H a = g.H a
  keep : ∀ a o, g.H a = some o → ¬ live g a → (∀ ps, o ≠ .tbl ps) → g'.H a = some o ∧ ¬ live g' a
  grow : ∀ a, g.H a ≠ none → g'.H a ≠ none
theorem Le.refl (g : G) : Le g g := ⟨List.prefix_refl _, rfl, fun _ _ => rfl, fun _ _ h n _ => ⟨h, n⟩, fun _ h => h⟩
theorem Le.trans {g1 g2 g3 : G} (a : Le g1 g2) (b : Le g2 g3) : Le g1 g3 :=
  ⟨a.pre.trans b.pre, b.hid.trans a.hid, fun x h => (b.hidk x (by rw [a.hid]; exact h)).trans (a.hidk x h), fun x o h n t => let ⟨h1, h2⟩ := a.keep x o h n t; b.keep x o h1 h2 t, fun x h => b.grow x (a.grow x h)⟩
section
variable {c : Glb} {g g' : G}
theorem GOk.lv (h : GOk c g) : ∀ a, live g a → (∃ xs, g.H a = some (.lst xs)) ∨ (∃ kvs, g.H a = some (.dK kvs)) ∨ ∃ kvs, g.H a = some (.dT kvs) := by
  rintro a (ha | ⟨n, x, h1, h2, h3⟩)
  · exact h.hid a ha
  · have q := h.cell n a x h1 h2
    cases x with
    | lst ds => obtain ⟨vs, e, _⟩ := q; exact .inl ⟨vs, e⟩
    | fzn ds => cases h3
    | dic kvs => obtain ⟨vs, e, _⟩ := q; exact .inr (.inl ⟨vs, e⟩)
    | fzd kvs => cases h3
    | dit kvs => obtain ⟨vs, e, _⟩ := q; exact .inr (.inr ⟨vs, e⟩)
/-- what is hidden is there -/
theorem GOk.hidn (h : GOk c g) {a : Addr} (ha : a ∈ g.hid) : g.H a ≠ none := by
  rcases h.hid a ha with ⟨_, q⟩ | ⟨_, q⟩ | ⟨_, q⟩ <;> rw [q] <;> simp
theorem upd_nn {p a : Addr} {o : HO} (n : g.H p = none) (ha : g.H a ≠ none) : upd g.H p o a = g.H a := upd_ne fun z => ha (z ▸ n)
theorem hid_same {H' : Hp} {a : Addr} (q : (∃ xs, g.H a = some (.lst xs)) ∨ (∃ kvs, g.H a = some (.dK kvs)) ∨ ∃ kvs, g.H a = some (.dT kvs)) (e : H' a = g.H a) : (∃ xs, H' a = some (.lst xs)) ∨ (∃ kvs, H' a = some (.dK kvs)) ∨ ∃ kvs, H' a = some (.dT kvs) := by
  rw [e]; exact q
theorem Le.mo (h : GOk c g) (l : Le g g') : Mo (live g) g.H (live g') g'.H := ⟨l.keep, h.lv⟩
theorem Rep.le {d : D} {v : V} (r : Rep c.K (live g) g.H d v) (h : GOk c g) (l : Le g g') : Rep c.K (live g') g'.H d v := Rep.mo (l.mo h) d v r
theorem Reps.le {ds : List D} {vs : List V} (r : Reps c.K (live g) g.H ds vs) (h : GOk c g) (l : Le g g') : Reps c.K (live g') g'.H ds vs := Reps.mo (l.mo h) ds vs r
/-- a new object is laid -/
theorem live_laid {p : Addr} {o : HO} : live { g with H := upd g.H p o } = live g := rfl
theorem GOk.nolive (h : GOk c g) {p : Addr} (n : g.H p = none) : ¬ live g p := fun z => by
  rcases h.lv p z with ⟨_, e⟩ | ⟨_, e⟩ | ⟨_, e⟩ <;> rw [n] at e <;> cases e
theorem mo_laid (h : GOk c g) {p : Addr} {o : HO} (n : g.H p = none) : Mo (live g) g.H (live g) (upd g.H p o) :=
  ⟨fun a u e nl _ => ⟨by rw [upd_ne (ne_of_none e n)]; exact e, nl⟩, h.lv⟩
theorem le_laid (h : GOk c g) {p : Addr} {o : HO} (n : g.H p = none) : Le g { g with H := upd g.H p o } :=
  ⟨List.prefix_refl _, rfl, fun a ha => upd_nn n (h.hidn ha), fun a u e nl _ => ⟨by show upd g.H p o a = _; rw [upd_ne (ne_of_none e n)]; exact e, nl⟩, fun a ha => by
    show upd g.H p o a ≠ none
    by_cases e : a = p
    · subst e; exact absurd n ha
    · rw [upd_ne e]; exact ha⟩
theorem CellOk.mo {K : PySem.W.Frag} {L L' : Addr → Prop} {H H' : Hp} {a : Addr} {x : Cell} (m : Mo L H L' H') (hk : x.isLive = true → H' a = H a) (q : CellOk K L H a x) : CellOk K L' H' a x := by
  cases x with
  | lst ds => obtain ⟨vs, e, hl, r⟩ := q; exact ⟨vs, by rw [hk rfl]; exact e, hl, Reps.mo m ds vs r⟩
  | fzn ds => exact Rep.mo m _ _ q
  | dic kvs => obtain ⟨vs, e, hl, r⟩ := q; exact ⟨vs, by rw [hk rfl]; exact e, hl, r.mo m⟩
  | fzd kvs =>
    obtain ⟨o, vs, e, nl, hl, r⟩ := q
    obtain ⟨h1, h2⟩ := m.keep _ _ e nl (fun ps z => by cases z)
    exact ⟨o, vs, h1, h2, hl, r.mo m⟩
  | dit kvs => obtain ⟨vs, e, hl, r⟩ := q; exact ⟨vs, by rw [hk rfl]; exact e, hl, r.mo m⟩
theorem gok_laid (h : GOk c g) {p : Addr} {o : HO} (n : g.H p = none) : GOk c { g with H := upd g.H p o } := by
  refine ⟨h.len, h.nd, h.apart, fun a ha => ?_, fun m a x h1 h2 => ?_, h.tabs.ext fun b u e => by show upd g.H p o b = _; rw [upd_ne (ne_of_none e n)]; exact e⟩
  · exact hid_same (h.hid a ha) (upd_nn n (h.hidn ha))
  · refine CellOk.mo (mo_laid h n) (fun z => ?_) (h.cell m a x h1 h2)
    rcases h.lv a (.inr ⟨m, x, h1, h2, z⟩) with ⟨_, e⟩ | ⟨_, e⟩ | ⟨_, e⟩ <;> exact upd_ne (ne_of_none e n)
/-- a new cell -/
theorem live_more {p : Addr} {x : Cell} {o : HO} (h : GOk c g) (a : Addr) : live ⟨g.hid, g.ρ ++ [p], g.S ++ [x], upd g.H p o⟩ a ↔ live g a ∨ (a = p ∧ x.isLive = true) := by
  have hl := h.len
  constructor
  · rintro (ha | ⟨n, y, h1, h2, h3⟩)
    · exact .inl (.inl ha)
    · by_cases hn : n < g.ρ.length
      · rw [List.getElem?_append_left hn] at h1
        rw [List.getElem?_append_left (by rw [← hl]; exact hn)] at h2
        exact .inl (.inr ⟨n, y, h1, h2, h3⟩)
      · rw [List.getElem?_append_right (by omega)] at h1
        rw [List.getElem?_append_right (by omega)] at h2
        have e : n - g.ρ.length = 0 := by
          by_cases e : n - g.ρ.length = 0
          · exact e
          · rw [List.getElem?_eq_none_iff.mpr (by simp; omega)] at h1; cases h1
        rw [e] at h1
        rw [← hl, e] at h2
        simp at h1 h2
        subst h1; subst h2
        exact .inr ⟨rfl, h3⟩
  · rintro ((ha | ⟨n, y, h1, h2, h3⟩) | ⟨rfl, h3⟩)
    · exact .inl ha
    · refine .inr ⟨n, y, ?_, ?_, h3⟩
      · show (g.ρ ++ [p])[n]? = _
        rw [List.getElem?_append_left (List.getElem?_eq_some_iff.mp h1).1]; exact h1
      · show (g.S ++ [x])[n]? = _
        rw [List.getElem?_append_left (List.getElem?_eq_some_iff.mp h2).1]; exact h2
    · exact .inr ⟨g.ρ.length, x, by simp, by rw [hl]; simp, h3⟩

theorem mo_more (h : GOk c g) {p : Addr} {x : Cell} {o : HO} (n : g.H p = none) : Mo (live g) g.H (live ⟨g.hid, g.ρ ++ [p], g.S ++ [x], upd g.H p o⟩) (upd g.H p o) :=
  ⟨fun a u e nl _ => ⟨by rw [upd_ne (ne_of_none e n)]; exact e, fun z => by
    rcases (live_more h a).mp z with z | ⟨z, _⟩
    · exact nl z
    · exact ne_of_none e n z⟩, h.lv⟩
theorem le_more (h : GOk c g) {p : Addr} {x : Cell} {o : HO} (n : g.H p = none) : Le g ⟨g.hid, g.ρ ++ [p], g.S ++ [x], upd g.H p o⟩ :=
  ⟨List.prefix_append _ _, rfl, fun a ha => upd_nn n (h.hidn ha), fun a u e nl t => (mo_more h n).keep a u e nl t, fun a ha => by
    show upd g.H p o a ≠ none
    by_cases e : a = p
    · subst e; exact absurd n ha
    · rw [upd_ne e]; exact ha⟩
/-- every tracked address of the store -/
theorem GOk.there (h : GOk c g) {n : Nat} {a : Addr} (e : g.ρ[n]? = some a) : g.H a ≠ none := by
  have hn : n < g.S.length := by rw [← h.len]; exact (List.getElem?_eq_some_iff.mp e).1
  have q := h.cell n a g.S[n] e (List.getElem?_eq_getElem hn)
  cases hx : g.S[n] with
  | lst ds => rw [hx] at q; obtain ⟨vs, e, _⟩ := q; rw [e]; simp
  | fzn ds =>
    rw [hx] at q
    cases q with
    | lst ha _ _ _ => rw [ha]; simp
  | dic kvs => rw [hx] at q; obtain ⟨vs, e, _⟩ := q; rw [e]; simp
  | fzd kvs => rw [hx] at q; obtain ⟨o, vs, e, _⟩ := q; rw [e]; simp
  | dit kvs => rw [hx] at q; obtain ⟨vs, e, _⟩ := q; rw [e]; simp
theorem gok_moreC (h : GOk c g) {p : Addr} {y : Cell} {o : HO} (n : g.H p = none) (hy : Mo (live g) g.H (live ⟨g.hid, g.ρ ++ [p], g.S ++ [y], upd g.H p o⟩) (upd g.H p o) → CellOk c.K (live ⟨g.hid, g.ρ ++ [p], g.S ++ [y], upd g.H p o⟩) (upd g.H p o) p y) : GOk c ⟨g.hid, g.ρ ++ [p], g.S ++ [y], upd g.H p o⟩ := by
  have nin : p ∉ g.ρ := fun z => by
    obtain ⟨i, e⟩ := List.mem_iff_getElem?.mp z
    exact h.there e n
  refine ⟨by simp [h.len], ?_, fun a ha hm => ?_, fun a ha => ?_, fun m a x h1 h2 => ?_, h.tabs.ext fun b u e => by show upd g.H p _ b = _; rw [upd_ne (ne_of_none e n)]; exact e⟩
  · refine List.nodup_append.mpr ⟨h.nd, by simp, fun a ha b hb e => ?_⟩
    have e2 : b = p := by simpa using hb
    rw [← e2, ← e] at nin
    exact nin ha
  · rcases List.mem_append.mp hm with z | z
    · exact h.apart a ha z
    · have e2 : a = p := by simpa using z
      exact h.hidn ha (e2 ▸ n)
  · exact hid_same (h.hid a ha) (upd_nn n (h.hidn ha))
  · have hl' := h.len
    have m' := mo_more (x := y) (o := o) h n
    have h1 : (g.ρ ++ [p])[m]? = some a := h1
    have h2 : (g.S ++ [y])[m]? = some x := h2
    by_cases hm : m < g.ρ.length
    · rw [List.getElem?_append_left hm] at h1
      rw [List.getElem?_append_left (by rw [← hl']; exact hm)] at h2
      refine CellOk.mo m' (fun z => ?_) (h.cell m a x h1 h2)
      exact upd_ne (fun z2 => h.there (n := m) (a := p) (z2 ▸ h1) n)
    · rw [List.getElem?_append_right (by omega)] at h1
      rw [List.getElem?_append_right (by omega)] at h2
      have e : m - g.ρ.length = 0 := by
        by_cases e : m - g.ρ.length = 0
        · exact e
        · rw [List.getElem?_eq_none_iff.mpr (by simp; omega)] at h1; cases h1
      rw [e] at h1
      rw [← hl', e] at h2
      simp at h1 h2
      subst h1; subst h2
      exact hy m'
theorem gok_more (h : GOk c g) {p : Addr} {ds : List D} {vs : List V} (n : g.H p = none) (hl : ds.length ≤ lim) (r : Reps c.K (live g) g.H ds vs) : GOk c ⟨g.hid, g.ρ ++ [p], g.S ++ [.lst ds], upd g.H p (.lst vs)⟩ :=
  gok_moreC h n fun m => ⟨vs, upd_same, hl, Reps.mo m _ _ r⟩
theorem gok_moreD (h : GOk c g) {p : Addr} {ks : List (Ky × D)} {vs : List (Key × V)} (n : g.H p = none) (hl : ks.length ≤ lim) (r : RepKs c.K (live g) g.H ks vs) : GOk c ⟨g.hid, g.ρ ++ [p], g.S ++ [.dic ks], upd g.H p (.dK vs)⟩ :=
  gok_moreC h n fun m => ⟨vs, upd_same, hl, r.mo m⟩
theorem gok_moreT (h : GOk c g) {p : Addr} {ks : List (List Int × D)} {vs : List (List Key × V)} (n : g.H p = none) (hl : ks.length ≤ lim) (r : RepTs c.K (live g) g.H ks vs) : GOk c ⟨g.hid, g.ρ ++ [p], g.S ++ [.dit ks], upd g.H p (.dT vs)⟩ :=
  gok_moreC h n fun m => ⟨vs, upd_same, hl, r.mo m⟩
/-- the same address, the same place -/
theorem GOk.inj (h : GOk c g) {m n : Nat} {a : Addr} (e1 : g.ρ[m]? = some a) (e2 : g.ρ[n]? = some a) : m = n := by
  obtain ⟨h1, q1⟩ := List.getElem?_eq_some_iff.mp e1
  obtain ⟨h2, q2⟩ := List.getElem?_eq_some_iff.mp e2
  exact (List.getElem_inj h.nd).mp (q1.trans q2.symm)
theorem live_set (h : GOk c g) {n : Nat} {a : Addr} {y x : Cell} {o : HO} (e1 : g.ρ[n]? = some a) (e2 : (g.S : List Cell)[n]? = some y) (b : Addr) :
    live ⟨g.hid, g.ρ, g.S.set n x, upd g.H a o⟩ b ↔ (b ≠ a ∧ live g b) ∨ (b = a ∧ x.isLive = true) := by
  have hn : n < g.S.length := (List.getElem?_eq_some_iff.mp e2).1
  constructor
  · rintro (hb | ⟨m, z, h1, h2, h3⟩)
    · refine .inl ⟨fun e => ?_, .inl hb⟩
      subst e
      exact h.apart _ hb (List.mem_of_getElem? e1)
    · have h2 : (g.S.set n x)[m]? = some z := h2
      by_cases hm : m = n
      · subst hm
        have h1 : g.ρ[m]? = some b := h1
        rw [e1] at h1; cases h1
        rw [List.getElem?_set_self hn] at h2; cases h2
        exact .inr ⟨rfl, h3⟩
      · rw [List.getElem?_set_ne (Ne.symm hm)] at h2
        exact .inl ⟨fun e => hm (h.inj (e ▸ h1) e1), .inr ⟨m, z, h1, h2, h3⟩⟩
  · rintro (⟨hb, hb2 | ⟨m, z, h1, h2, h3⟩⟩ | ⟨rfl, h3⟩)
    · exact .inl hb2
    · have hm : m ≠ n := fun e => by subst e; rw [e1] at h1; cases h1; exact hb rfl
      exact .inr ⟨m, z, h1, by show (g.S.set n x)[m]? = _; rw [List.getElem?_set_ne (Ne.symm hm)]; exact h2, h3⟩
    · exact .inr ⟨n, x, e1, by show (g.S.set n x)[n]? = _; rw [List.getElem?_set_self hn], h3⟩
theorem mo_set (h : GOk c g) {n : Nat} {a : Addr} {y x : Cell} {o : HO} (e1 : g.ρ[n]? = some a) (e2 : (g.S : List Cell)[n]? = some y) (hy : y.isLive = true) :
    Mo (live g) g.H (live ⟨g.hid, g.ρ, g.S.set n x, upd g.H a o⟩) (upd g.H a o) := by
  have la : live g a := .inr ⟨n, y, e1, e2, hy⟩
  refine ⟨fun b u e nl _ => ?_, h.lv⟩
  have hb : b ≠ a := fun z => nl (z ▸ la)
  refine ⟨by rw [upd_ne hb]; exact e, fun z => ?_⟩
  rcases (live_set h e1 e2 b).mp z with ⟨_, z⟩ | ⟨z, _⟩
  · exact nl z
  · exact hb z
theorem le_set (h : GOk c g) {n : Nat} {a : Addr} {y x : Cell} {o : HO} (e1 : g.ρ[n]? = some a) (e2 : (g.S : List Cell)[n]? = some y) (hy : y.isLive = true) : Le g ⟨g.hid, g.ρ, g.S.set n x, upd g.H a o⟩ :=
  ⟨List.prefix_refl _, rfl, fun b hb => upd_ne (fun z => h.apart b hb (by subst z; exact List.mem_of_getElem? e1)), (mo_set h e1 e2 hy).keep, fun b hb => by
    show upd g.H a o b ≠ none
    by_cases e : b = a
    · subst e; rw [upd_same]; simp
    · rw [upd_ne e]; exact hb⟩
/-- a live cell is written -/
theorem gok_setC (h : GOk c g) {n : Nat} {a : Addr} {y z : Cell} {o : HO} (e1 : g.ρ[n]? = some a) (e2 : (g.S : List Cell)[n]? = some y) (hy : y.isLive = true) (hz : Mo (live g) g.H (live ⟨g.hid, g.ρ, g.S.set n z, upd g.H a o⟩) (upd g.H a o) → CellOk c.K (live ⟨g.hid, g.ρ, g.S.set n z, upd g.H a o⟩) (upd g.H a o) a z) :
    GOk c ⟨g.hid, g.ρ, g.S.set n z, upd g.H a o⟩ := by
  have la : live g a := .inr ⟨n, y, e1, e2, hy⟩
  have hn : n < g.S.length := (List.getElem?_eq_some_iff.mp e2).1
  have m' := mo_set (x := z) (o := o) h e1 e2 hy
  have nt : ∀ b u, g.H b = some u → b ≠ a → upd g.H a o b = some u := fun b u e hb => by rw [upd_ne hb]; exact e
  refine ⟨by simp [h.len], h.nd, h.apart, fun b hb => ?_, fun m b x h1 h2 => ?_, fun p hp => ?_⟩
  · exact hid_same (h.hid b hb) (upd_ne (fun z => h.apart b hb (by subst z; exact List.mem_of_getElem? e1)))
  · have h2 : (g.S.set n z)[m]? = some x := h2
    by_cases hm : m = n
    · subst hm
      have h1 : g.ρ[m]? = some b := h1
      rw [e1] at h1; cases h1
      rw [List.getElem?_set_self hn] at h2; cases h2
      exact hz m'
    · rw [List.getElem?_set_ne (Ne.symm hm)] at h2
      refine CellOk.mo m' (fun _ => ?_) (h.cell m b x h1 h2)
      exact upd_ne (fun z => hm (h.inj (z ▸ h1) e1))
  · obtain ⟨ps, q1, q2, q3⟩ := h.tabs p hp
    have ne : ∀ b u, g.H b = some u → (∀ xs, u ≠ .lst xs) → (∀ k, u ≠ .dK k) → (∀ k, u ≠ .dT k) → b ≠ a := fun b u e n1 n2 n3 z => by
      subst z
      rcases h.lv _ la with ⟨z, q⟩ | ⟨z, q⟩ | ⟨z, q⟩ <;> rw [e] at q <;> cases q
      · exact n1 _ rfl
      · exact n2 _ rfl
      · exact n3 _ rfl
    refine ⟨ps, nt _ _ q1 (ne _ _ q1 (fun _ z => by cases z) (fun _ z => by cases z) (fun _ z => by cases z)), q2, fun pos cv hc => ?_⟩
    obtain ⟨c0, z1, z2⟩ := q3 pos cv hc
    exact ⟨c0, z1, nt _ _ z2 (ne _ _ z2 (fun _ z => by unfold LamX.CodeO at z; cases z) (fun _ z => by unfold LamX.CodeO at z; cases z) (fun _ z => by unfold LamX.CodeO at z; cases z))⟩
theorem gok_set (h : GOk c g) {n : Nat} {a : Addr} {y : Cell} {ds : List D} {vs : List V} (e1 : g.ρ[n]? = some a) (e2 : (g.S : List Cell)[n]? = some y) (hy : y.isLive = true) (hl : ds.length ≤ lim) (r : Reps c.K (live g) g.H ds vs) :
    GOk c ⟨g.hid, g.ρ, g.S.set n (.lst ds), upd g.H a (.lst vs)⟩ := gok_setC h e1 e2 hy fun m => ⟨vs, upd_same, hl, Reps.mo m _ _ r⟩
theorem gok_setD (h : GOk c g) {n : Nat} {a : Addr} {y : Cell} {ks : List (Ky × D)} {vs : List (Key × V)} (e1 : g.ρ[n]? = some a) (e2 : (g.S : List Cell)[n]? = some y) (hy : y.isLive = true) (hl : ks.length ≤ lim) (r : RepKs c.K (live g) g.H ks vs) :
    GOk c ⟨g.hid, g.ρ, g.S.set n (.dic ks), upd g.H a (.dK vs)⟩ := gok_setC h e1 e2 hy fun m => ⟨vs, upd_same, hl, r.mo m⟩
theorem gok_setT (h : GOk c g) {n : Nat} {a : Addr} {y : Cell} {ks : List (List Int × D)} {vs : List (List Key × V)} (e1 : g.ρ[n]? = some a) (e2 : (g.S : List Cell)[n]? = some y) (hy : y.isLive = true) (hl : ks.length ≤ lim) (r : RepTs c.K (live g) g.H ks vs) :
    GOk c ⟨g.hid, g.ρ, g.S.set n (.dit ks), upd g.H a (.dT vs)⟩ := gok_setC h e1 e2 hy fun m => ⟨vs, upd_same, hl, r.mo m⟩
/-- a table is locked -/
theorem gok_lock (h : GOk c g) {n : Nat} {a : Addr} {y : Cell} {od : Obj} {ks : List (Ky × D)} {vs : List (Key × V)} (e1 : g.ρ[n]? = some a) (e2 : (g.S : List Cell)[n]? = some y) (hy : y.isLive = true) (hl : ks.length ≤ lim) (r : RepKs c.K (live g) g.H ks vs) :
    GOk c ⟨g.hid, g.ρ, g.S.set n (.fzd ks), upd g.H a (.frz od (.dK vs))⟩ := gok_setC h e1 e2 hy fun m => ⟨od, vs, upd_same, (fun z => by
      rcases (live_set (x := .fzd ks) (o := .frz od (.dK vs)) h e1 e2 a).mp z with ⟨z, _⟩ | ⟨_, z⟩
      · exact z rfl
      · cases z), hl, r.mo m⟩
/-- a live list is frozen -/
theorem live_fzn (h : GOk c g) {n : Nat} {a : Addr} {ds : List D} (e1 : g.ρ[n]? = some a) (e2 : (g.S : List Cell)[n]? = some (.lst ds)) (b : Addr) :
    live ⟨g.hid, g.ρ, g.S.set n (.fzn ds), g.H⟩ b ↔ (b ≠ a ∧ live g b) := by
  have e : live ⟨g.hid, g.ρ, g.S.set n (.fzn ds), g.H⟩ b ↔ live ⟨g.hid, g.ρ, g.S.set n (.fzn ds), upd g.H a (.lst [])⟩ b := Iff.rfl
  rw [e, live_set h e1 e2 b]
  constructor
  · rintro (z | ⟨_, z⟩)
    · exact z
    · cases z
  · exact .inl
theorem le_fzn (h : GOk c g) {n : Nat} {a : Addr} {ds : List D} (e1 : g.ρ[n]? = some a) (e2 : (g.S : List Cell)[n]? = some (.lst ds)) : Le g ⟨g.hid, g.ρ, g.S.set n (.fzn ds), g.H⟩ :=
  ⟨List.prefix_refl _, rfl, fun _ _ => rfl, fun b u e nl _ => ⟨e, fun z => nl ((live_fzn h e1 e2 b).mp z).2⟩, fun _ hb => hb⟩
theorem gok_fzn (h : GOk c g) {n : Nat} {a : Addr} {ds : List D} (e1 : g.ρ[n]? = some a) (e2 : (g.S : List Cell)[n]? = some (.lst ds)) :
    GOk c ⟨g.hid, g.ρ, g.S.set n (.fzn ds), g.H⟩ ∧ Rep c.K (live ⟨g.hid, g.ρ, g.S.set n (.fzn ds), g.H⟩) g.H (.lst ds) (.ref a) := by
  have hn : n < g.S.length := (List.getElem?_eq_some_iff.mp e2).1
  have m' : Mo (live g) g.H (live ⟨g.hid, g.ρ, g.S.set n (.fzn ds), g.H⟩) g.H := ⟨(le_fzn h e1 e2).keep, h.lv⟩
  obtain ⟨vs, q1, hl, q2⟩ := h.cell n a _ e1 e2
  have r : Rep c.K (live ⟨g.hid, g.ρ, g.S.set n (.fzn ds), g.H⟩) g.H (.lst ds) (.ref a) := .lst q1 (fun z => ((live_fzn h e1 e2 a).mp z).1 rfl) hl (Reps.mo m' _ _ q2)
  refine ⟨⟨by simp [h.len], h.nd, h.apart, h.hid, fun m b x h1 h2 => ?_, h.tabs⟩, r⟩
  have h2 : (g.S.set n (.fzn ds))[m]? = some x := h2
  by_cases hm : m = n
  · subst hm
    have h1 : g.ρ[m]? = some b := h1
    rw [e1] at h1; cases h1
    rw [List.getElem?_set_self hn] at h2; cases h2
    exact r
  · rw [List.getElem?_set_ne (Ne.symm hm)] at h2
    exact CellOk.mo m' (fun _ => rfl) (h.cell m b x h1 h2)
/-- what came behind is forgotten -/
theorem live_cut {k : Nat} {b : Addr} (z : live ⟨g.hid, g.ρ.take k, g.S.take k, g.H⟩ b) : live g b := by
  rcases z with z | ⟨m, x, h1, h2, h3⟩
  · exact .inl z
  · refine .inr ⟨m, x, ?_, ?_, h3⟩
    · have h1 : (g.ρ.take k)[m]? = some b := h1
      rw [List.getElem?_take] at h1
      split at h1
      · exact h1
      · cases h1
    · have h2 : (g.S.take k)[m]? = some x := h2
      rw [List.getElem?_take] at h2
      split at h2
      · exact h2
      · cases h2
theorem mo_cut (h : GOk c g) (k : Nat) : Mo (live g) g.H (live ⟨g.hid, g.ρ.take k, g.S.take k, g.H⟩) g.H := ⟨fun b u e nl _ => ⟨e, fun z => nl (live_cut z)⟩, h.lv⟩
theorem gok_cut (h : GOk c g) (k : Nat) : GOk c ⟨g.hid, g.ρ.take k, g.S.take k, g.H⟩ := by
  refine ⟨by simp [h.len], h.nd.sublist (List.take_sublist _ _), fun a ha hm => h.apart a ha (List.mem_of_mem_take hm), h.hid, fun m b x h1 h2 => ?_, h.tabs⟩
  have h1 : (g.ρ.take k)[m]? = some b := h1
  have h2 : (g.S.take k)[m]? = some x := h2
  rw [List.getElem?_take] at h1 h2
  split at h1
  · rename_i hm
    rw [if_pos hm] at h2
    exact CellOk.mo (mo_cut h k) (fun _ => rfl) (h.cell m b x h1 h2)
  · cases h1
/-- an address that is hidden for a while -/
theorem live_hide (p : Addr) (b : Addr) : live { g with hid := p :: g.hid } b ↔ b = p ∨ live g b := by
  constructor
  · rintro (z | z)
    · rcases List.mem_cons.mp z with z | z
      · exact .inl z
      · exact .inr (.inl z)
    · exact .inr (.inr z)
  · rintro (rfl | z | z)
    · exact .inl List.mem_cons_self
    · exact .inl (List.mem_cons_of_mem _ z)
    · exact .inr z
end
/-! ### objects known exactly -/
/-- the object at a is o -/
def exO (a : Addr) (o : Obj) : HO := .ext fun h => h.get? a = some o
theorem exO_ok {P : Program} {w : World} {H : Hp} {h : PySem.Heap} {a : Addr} {o : Obj} (e : h.get? a = some o) : ObjOk P w H h a (exO a o) := ⟨e, ⟨o, e⟩, fun h1 h2 e1 k => k o e1⟩
def addX (H : Hp) (ts : List (Addr × Obj)) : Hp := fun a => match ts.lookup a with
  | some o => some (exO a o)
  | none => H a
def subX (H : Hp) (ts : List (Addr × Obj)) : Hp := fun a => match ts.lookup a with
  | some _ => none
  | none => H a
theorem addX_in {H : Hp} {ts : List (Addr × Obj)} {a : Addr} {o : Obj} (h : ts.lookup a = some o) : addX H ts a = some (exO a o) := by unfold addX; rw [h]
theorem addX_out {H : Hp} {ts : List (Addr × Obj)} {a : Addr} (h : ts.lookup a = none) : addX H ts a = H a := by unfold addX; rw [h]
theorem subX_in {H : Hp} {ts : List (Addr × Obj)} {a : Addr} {o : Obj} (h : ts.lookup a = some o) : subX H ts a = none := by unfold subX; rw [h]
theorem subX_out {H : Hp} {ts : List (Addr × Obj)} {a : Addr} (h : ts.lookup a = none) : subX H ts a = H a := by unfold subX; rw [h]
theorem opt_cases {α : Type} (o : Option α) : o = none ∨ ∃ x, o = some x := by cases o <;> simp
/-! ### values and names -/
/-- as Le, but more may be hidden -/
structure Lw (g g' : G) : Prop where
  pre : g.ρ <+: g'.ρ
  keep : ∀ a o, g.H a = some o → ¬ live g a → (∀ ps, o ≠ .tbl ps) → g'.H a = some o ∧ ¬ live g' a
theorem Le.lw {g g' : G} (l : Le g g') : Lw g g' := ⟨l.pre, l.keep⟩
theorem Lw.refl (g : G) : Lw g g := (Le.refl g).lw
theorem Lw.mo {c : Glb} {g g' : G} (h : GOk c g) (l : Lw g g') : Mo (live g) g.H (live g') g'.H := ⟨l.keep, h.lv⟩
theorem Rep.lw {c : Glb} {g g' : G} {d : D} {v : V} (r : Rep c.K (live g) g.H d v) (h : GOk c g) (l : Lw g g') : Rep c.K (live g') g'.H d v := Rep.mo (l.mo h) d v r
theorem Reps.lw {c : Glb} {g g' : G} {ds : List D} {vs : List V} (r : Reps c.K (live g) g.H ds vs) (h : GOk c g) (l : Lw g g') : Reps c.K (live g') g'.H ds vs := Reps.mo (l.mo h) ds vs r
/-- a list that nothing writes: it may be the script -/
def SqS (c : Glb) (g : G) (a : Addr) (vs : List V) : Prop := (Rd g.H a (.lst vs) ∧ ¬ live g a) ∨ SqL c.K (fun _ => none) a vs
theorem SqS.sq {c : Glb} {g : G} {a : Addr} {vs : List V} (h : SqS c g a vs) : SqL c.K g.H a vs := by
  rcases h with h | (h | ⟨o, h⟩) | h
  · exact .inl h.1
  · cases h
  · cases h
  · exact .inr h
theorem SqS.lw {c : Glb} {g g' : G} {a : Addr} {vs : List V} (h : SqS c g a vs) (l : Lw g g') : SqS c g' a vs := by
  rcases h with ⟨h | ⟨o, h⟩, n⟩ | h
  · obtain ⟨h1, h2⟩ := l.keep _ _ h n (fun ps z => by cases z)
    exact .inl ⟨.inl h1, h2⟩
  · obtain ⟨h1, h2⟩ := l.keep _ _ h n (fun ps z => by cases z)
    exact .inl ⟨.inr ⟨o, h1⟩, h2⟩
  · exact .inr h
/-- a captured value: no closure, no error -/
inductive RepB (c : Glb) (g : G) : Vl → V → Prop
  | d {x : D} {w : V} : Rep c.K (live g) g.H x w → RepB c g (.d x) w
  | ref {n : Nat} {a : Addr} : g.ρ[n]? = some a → RepB c g (.ref n) (.ref a)
  | fnv {f : Nat} {a : Addr} : c.fa f = some a → RepB c g (.fnv f) (.ref a)
inductive RepBs (c : Glb) (g : G) : List Vl → List V → Prop
  | nil : RepBs c g [] []
  | cons {v : Vl} {w : V} {vs : List Vl} {ws : List V} : RepB c g v w → RepBs c g vs ws → RepBs c g (v :: vs) (w :: ws)
/-- a closure as it lies: its function object, its code object, its cells -/
structure CloAt (c : Glb) (g : G) (fl : Nat) (f c' : Addr) (qual : Str) (I : LamI) (cells : List (Str × Addr)) (pm ctv : Value) (ts : List (Addr × Obj)) (us : List Value) (ws : List V) : Prop where
  lam : c.lam fl I
  fo : ∃ dV doc, g.H f = some (exO f (PySem.W.kdv_obj "<lambda>" qual I.params (.expr I.body) I.scope cells dV doc pm c' ctv)) ∧ ((I.dfl = 0 ∧ dV = .none) ∨ (I.dfl ≠ 0 ∧ ∃ (t : Addr) (o : Obj) (its : List Value) (n : Nat), dV = .ref t ∧ g.H t = some (exO t o) ∧ o.data = .seq its.toArray n ∧ its.length = I.dfl))
  co : g.H c' = some (LamX.CodeO c' qual)
  tk : ∀ a o, ts.lookup a = some o → g.H a = some (exO a o)
  cap : ∀ (i : Nat) (y : Str), I.caps[i]? = some y → ∃ (a : Addr) (o : Obj) (u : Value), cells.lookup y = some a ∧ ts.lookup a = some o ∧ o.data = .cell (some u) ∧ us[i]? = some u
  cel : ∀ (y : Str) (a : Addr), cells.lookup y = some a → ∃ (o : Obj) (v : Option Value), ts.lookup a = some o ∧ o.data = .cell v
  inj : ∀ x y a, cells.lookup x = some a → cells.lookup y = some a → x = y
  rv : Vals ws us
  tc : ∀ a o, ts.lookup a = some o → ∃ v, o.data = .cell v
  ln : ws.length = I.caps.length
inductive RepV (c : Glb) (g : G) : Vl → V → Prop
  | d {x : D} {w : V} : Rep c.K (live g) g.H x w → RepV c g (.d x) w
  | ref {n : Nat} {a : Addr} : g.ρ[n]? = some a → RepV c g (.ref n) (.ref a)
  | fnv {f : Nat} {a : Addr} : c.fa f = some a → RepV c g (.fnv f) (.ref a)
  | exn {a : Addr} {k : Nat} {xs : List D} : c.ex = some (a, k) → RepV c g (.exn k xs) (.ref a)
  | clo {fl : Nat} {cs : List Vl} {f c' : Addr} {qual : Str} {I : LamI} {cells : List (Str × Addr)} {pm ctv : Value} {ts : List (Addr × Obj)} {us : List Value} {ws : List V} : CloAt c g fl f c' qual I cells pm ctv ts us ws → RepBs c g cs ws → RepV c g (.clo fl cs) (.ref f)
  | scr {a : Addr} {ds : List D} {vs : List V} : SqS c g a vs → ds.length ≤ lim → Reps c.K (live g) g.H ds vs → RepV c g (.scr ds) (.ref a)
section
variable {c : Glb} {g g' : G}
theorem pre_get {α : Type} {l l' : List α} {n : Nat} {a : α} (p : l <+: l') (e : l[n]? = some a) : l'[n]? = some a := by
  obtain ⟨t, rfl⟩ := p
  rw [List.getElem?_append_left (List.getElem?_eq_some_iff.mp e).1]
  exact e
theorem ext_keep (h : GOk c g) (l : Lw g g') {a : Addr} {φ : PySem.Heap → Prop} (e : g.H a = some (.ext φ)) : g'.H a = some (.ext φ) :=
  (l.keep a _ e (fun z => by rcases h.lv a z with ⟨_, q⟩ | ⟨_, q⟩ | ⟨_, q⟩ <;> rw [e] at q <;> cases q) (fun ps z => by cases z)).1
theorem RepB.lw {v : Vl} {w : V} (r : RepB c g v w) (h : GOk c g) (l : Lw g g') : RepB c g' v w := by
  cases r with
  | d r => exact .d (r.lw h l)
  | ref e => exact .ref (pre_get l.pre e)
  | fnv e => exact .fnv e
theorem RepBs.lw : ∀ {vs : List Vl} {ws : List V}, RepBs c g vs ws → GOk c g → Lw g g' → RepBs c g' vs ws
  | _, _, .nil, _, _ => .nil
  | _, _, .cons r t, h, l => .cons (r.lw h l) (RepBs.lw t h l)
theorem CloAt.lw {fl : Nat} {f c' : Addr} {qual : Str} {I : LamI} {cells : List (Str × Addr)} {pm ctv : Value} {ts : List (Addr × Obj)} {us : List Value} {ws : List V} (k : CloAt c g fl f c' qual I cells pm ctv ts us ws) (h : GOk c g) (l : Lw g g') : CloAt c g' fl f c' qual I cells pm ctv ts us ws :=
  ⟨k.lam, (let ⟨dV, doc, q1, q2⟩ := k.fo; ⟨dV, doc, ext_keep h l q1, q2.imp id fun ⟨z, t, o, its, n, e1, e2, e3, e4⟩ => ⟨z, t, o, its, n, e1, ext_keep h l e2, e3, e4⟩⟩), ext_keep h l k.co, fun a o q => ext_keep h l (k.tk a o q), k.cap, k.cel, k.inj, k.rv, k.tc, k.ln⟩
theorem RepV.lw {v : Vl} {w : V} (r : RepV c g v w) (h : GOk c g) (l : Lw g g') : RepV c g' v w := by
  cases r with
  | d r => exact .d (r.lw h l)
  | ref e => exact .ref (pre_get l.pre e)
  | fnv e => exact .fnv e
  | exn e => exact .exn e
  | clo k r => exact .clo (k.lw h l) (r.lw h l)
  | scr e hl r => exact .scr (e.lw l) hl (r.lw h l)
theorem RepV.le {v : Vl} {w : V} (r : RepV c g v w) (h : GOk c g) (l : Le g g') : RepV c g' v w := r.lw h l.lw
structure LocOk (c : Glb) (g : G) (l : Loc) (σ : L2.St) : Prop where
  len : l.length = σ.length
  at_ : ∀ (i : Nat) (v : Vl), l[i]? = some (some v) → ∃ w, σ[i]? = some (some w) ∧ RepV c g v w
theorem LocOk.le {l : Loc} {σ : L2.St} (r : LocOk c g l σ) (h : GOk c g) (e : Le g g') : LocOk c g' l σ :=
  ⟨r.len, fun i v q => let ⟨w, h1, h2⟩ := r.at_ i v q; ⟨w, h1, h2.le h e⟩⟩
theorem LocOk.set {l : Loc} {σ : L2.St} (r : LocOk c g l σ) {v : Vl} {w : V} (q : RepV c g v w) (i : Nat) : LocOk c g (l.set i (some v)) (σ.set i (some w)) := by
  refine ⟨by simp [r.len], fun j u e => ?_⟩
  by_cases hj : i = j
  · subst hj
    have hi : i < l.length := by have := (List.getElem?_eq_some_iff.mp e).1; simpa using this
    rw [List.getElem?_set_self hi] at e
    cases e
    exact ⟨w, by rw [List.getElem?_set_self (by rw [← r.len]; exact hi)], q⟩
  · rw [List.getElem?_set_ne hj] at e
    obtain ⟨w', h1, h2⟩ := r.at_ j u e
    exact ⟨w', by rw [List.getElem?_set_ne hj]; exact h1, h2⟩
theorem LocOk.forget {l : Loc} {σ : L2.St} (r : LocOk c g l σ) (i : Nat) : LocOk c g (l.set i none) (σ.set i none) := by
  refine ⟨by simp [r.len], fun j u e => ?_⟩
  by_cases hj : i = j
  · subst hj
    have hi : i < l.length := by have := (List.getElem?_eq_some_iff.mp e).1; simpa using this
    rw [List.getElem?_set_self hi] at e
    cases e
  · rw [List.getElem?_set_ne hj] at e
    obtain ⟨w', h1, h2⟩ := r.at_ j u e
    exact ⟨w', by rw [List.getElem?_set_ne hj]; exact h1, h2⟩
end
end EV
end

section
set_option Elab.async false
set_option linter.all false
set_option maxRecDepth 100000
set_option maxHeartbeats 1000000
/-! EV3: what an expression's evaluation promises; the first constructs -/
namespace EV
open PySem PySem.Spec PyProof.Rows L2
/-- what an error carries: no own dict without arguments -/
def ExOk (c : Glb) (n : Nat) (xs : List D) (d : Option Addr) (H : Hp) : Prop := xs = [] ∧ d = none
/-- what is wanted of an outcome -/
def Out {α : Type} (c : Glb) (g : G) (W : WX) (σ : L2.St) (r : R α) (k : α → G → Prop) : Prop :=
  match r with
  | .ok a S' => ∀ ρ' H', GOk c ⟨g.hid, ρ', S', H'⟩ → Le g ⟨g.hid, ρ', S', H'⟩ → k a ⟨g.hid, ρ', S', H'⟩
  | .exc n xs S' => ∀ ρ' H' d, GOk c ⟨g.hid, ρ', S', H'⟩ → Le g ⟨g.hid, ρ', S', H'⟩ → ExOk c n xs d H' → ∃ cls, c.ca n = some cls ∧ W cls d σ H'
  | .stuck => False
section
variable {α β : Type} {c : Glb} {g g' : G} {W : WX} {σ : L2.St}
theorem Out.le {r : R α} {k : α → G → Prop} (h : Out c g W σ r k) (l : Le g g') : Out c g' W σ r k := by
  cases r with
  | ok a S' => intro ρ' H' ok le; rw [l.hid] at ok le ⊢; exact h ρ' H' ok (l.trans le)
  | exc n xs S' => intro ρ' H' d ok le ex; rw [l.hid] at ok le; exact h ρ' H' d ok (l.trans le) ex
  | stuck => exact h
theorem Out.bind {r : R α} {f : α → Sto → R β} {k : β → G → Prop} (h : Out c g W σ (r.bind f) k) : Out c g W σ r (fun a g1 => Le g g1 ∧ GOk c g1 ∧ Out c g1 W σ (f a g1.S) k) := by
  cases r with
  | ok a S' => intro ρ' H' ok le; exact ⟨le, ok, Out.le (g := g) h le⟩
  | exc n xs S' => exact h
  | stuck => exact h
theorem Out.opt {o : Option α} {f : α → R β} {k : β → G → Prop} (h : Out c g W σ (R.opt o f) k) : ∃ a, o = some a ∧ Out c g W σ (f a) k := by
  cases o with
  | none => exact h.elim
  | some a => exact ⟨a, rfl, h⟩
theorem Out.imp {r : R α} {k k' : α → G → Prop} (h : Out c g W σ r k) (i : ∀ a g', k a g' → k' a g') : Out c g W σ r k' := by
  cases r with
  | ok a S' => intro ρ' H' ok le; exact i _ _ (h ρ' H' ok le)
  | exc n xs S' => exact h
  | stuck => exact h
/-- the very state -/
theorem Out.here {a : α} {k : α → G → Prop} (h : Out c g W σ (.ok a g.S) k) (ok : GOk c g) : k a g := h g.ρ g.H ok (Le.refl g)
end
/-- an expression's evaluation at slots and heap -/
def tEv (c : Glb) (U : Env) (W : WX) (l : LE) : TE := fun σ H Q => ∃ (g : G) (loc : Loc), g.H = H ∧ GOk c g ∧ LocOk c g loc σ ∧ Out c g W σ (evE U l loc g.S) (fun v g' => ∀ w, RepV c g' v w → Q w g'.H)
/-- a new value: a list stands at a new place -/
def OutN (c : Glb) (g : G) (z : D) (Q : VK) : Prop :=
  match z with
  | .lst ds => ∀ p vs, g.H p = none → ds.length ≤ lim → Reps c.K (live g) g.H ds vs → Q (.ref p) (upd g.H p (.lst vs))
  | z => ∀ H' w, GOk c { g with H := H' } → Le g { g with H := H' } → Rep c.K (live g) H' z w → Q w H'
def tEvN (c : Glb) (U : Env) (W : WX) (l : LE) : TE := fun σ H Q => ∃ (g : G) (loc : Loc), g.H = H ∧ GOk c g ∧ LocOk c g loc σ ∧ Out c g W σ (evE U l loc g.S) (fun v g' => ∃ z, v = .d z ∧ OutN c g' z Q)
inductive RepVs (c : Glb) (g : G) : List Vl → List V → Prop
  | nil : RepVs c g [] []
  | cons {v : Vl} {w : V} {vs : List Vl} {ws : List V} : RepV c g v w → RepVs c g vs ws → RepVs c g (v :: vs) (w :: ws)
theorem RepVs.le {c : Glb} {g g' : G} : ∀ {vs : List Vl} {ws : List V}, RepVs c g vs ws → GOk c g → Le g g' → RepVs c g' vs ws
  | _, _, .nil, _, _ => .nil
  | _, _, .cons r t, h, l => .cons (r.le h l) (RepVs.le t h l)
theorem RepVs.length {c : Glb} {g : G} : ∀ {vs : List Vl} {ws : List V}, RepVs c g vs ws → vs.length = ws.length
  | _, _, .nil => rfl
  | _, _, .cons _ t => by simp [RepVs.length t]
def tEvs (c : Glb) (U : Env) (W : WX) (l : LEs) : TA := fun σ H Q => ∃ (g : G) (loc : Loc), g.H = H ∧ GOk c g ∧ LocOk c g loc σ ∧ Out c g W σ (evEs U l loc g.S) (fun vs g' => ∀ ws, RepVs c g' vs ws → Q ws g'.H)
def tTv (c : Glb) (U : Env) (W : WX) (l : LE) : TT := fun σ H Q => ∃ (g : G) (loc : Loc), g.H = H ∧ GOk c g ∧ LocOk c g loc σ ∧ Out c g W σ (evE U l loc g.S) (fun v g' => ∃ b, asBool v = some b ∧ Q b g'.H)
theorem PE.imp {X : Cx} {e : Expr} {t t' : TE} (h : PE X e t) (i : ∀ σ H Q, t' σ H Q → t σ H Q) : PE X e t' := ⟨fun pins s σ H Q I q => h.run pins s σ H Q I (i _ _ _ q)⟩
theorem PT.imp {X : Cx} {e : Expr} {t t' : TT} (h : PT X e t) (i : ∀ σ H Q, t' σ H Q → t σ H Q) : PT X e t' := ⟨fun pins s σ H Q I q => h.run pins s σ H Q I (i _ _ _ q)⟩
theorem PW.imp {X : Cx} {e : Expr} {t t' : TT} (h : PW X e t) (i : ∀ σ H Q, t' σ H Q → t σ H Q) : PW X e t' := ⟨fun wh pins s σ H Q I q => h.run wh pins s σ H Q I (i _ _ _ q)⟩
theorem PA.imp {X : Cx} {e : List Expr} {t t' : TA} (h : PA X e t) (i : ∀ σ H Q, t' σ H Q → t σ H Q) : PA X e t' := ⟨fun pos pins s σ H Q I q => h.run pos pins s σ H Q I (i _ _ _ q)⟩
theorem PS.imp {X : Cx} {e : Stmt} {t t' : TS} (h : PS X e t) (i : ∀ D σ H, t' D σ H → t D σ H) : PS X e t' := ⟨fun pins s σ H D I q => h.run pins s σ H D I (i _ _ _ q)⟩
theorem PSs.imp {X : Cx} {e : List Stmt} {t t' : TS} (h : PSs X e t) (i : ∀ D σ H, t' D σ H → t D σ H) : PSs X e t' := ⟨fun pins s σ H D I q => h.run pins s σ H D I (i _ _ _ q)⟩
section
variable {c : Glb} {U : Env} {W : WX} {X : Cx} {e : Expr} {l : LE}
/-- a frozen one of what is new -/
theorem OutN.of {g : G} {z : D} {Q : VK} (ok : GOk c g) (h : ∀ H' w, GOk c { g with H := H' } → Le g { g with H := H' } → RepV c { g with H := H' } (.d z) w → Q w H') : OutN c g z Q := by
  have any : ∀ H' w, GOk c { g with H := H' } → Le g { g with H := H' } → Rep c.K (live g) H' z w → Q w H' := fun H' w o l r => h H' w o l (.d r)
  cases z with
  | lst ds =>
    intro p vs hp hl r
    refine h _ _ (gok_laid ok hp) (le_laid ok hp) (.d (.lst upd_same (ok.nolive hp) hl (Reps.mo (mo_laid ok hp) _ _ r)))
  | non => exact any
  | bl b => exact any
  | int i => exact any
  | str s => exact any
  | tup ds => exact any
theorem pe_froz (h : PE X e (tEvN c U W l)) (hd : ∀ loc S v S', evE U l loc S = .ok v S' → ∃ z, v = .d z) : PE X e (tEv c U W l) := PE.imp h fun σ H Q => by
  rintro ⟨g, loc, rfl, ok, lo, out⟩
  refine ⟨g, loc, rfl, ok, lo, ?_⟩
  cases hr : evE U l loc g.S with
  | ok v S' =>
    rw [hr] at out
    intro ρ' H' ok' le
    obtain ⟨z, rfl⟩ := hd _ _ _ _ hr
    exact ⟨z, rfl, OutN.of ok' fun H2 w o2 l2 r2 => out ρ' H2 o2 (le.trans l2) w r2⟩
  | exc n xs S' => rw [hr] at out; exact out
  | stuck => rw [hr] at out; exact out
theorem pe_thaw (h : PE X e (tEvN c U W l)) : PE X e (tEv c U W (.thaw l)) := PE.imp h fun σ H Q => by
  rintro ⟨g, loc, rfl, ok, lo, out⟩
  refine ⟨g, loc, rfl, ok, lo, Out.imp (Out.bind out) fun v g1 ⟨le, ok1, o1⟩ => ?_⟩
  cases v with
  | d z =>
    cases z with
    | lst ds =>
      refine ⟨.lst ds, rfl, fun p vs hp hl r => ?_⟩
      refine o1 (g1.ρ ++ [p]) (upd g1.H p (.lst vs)) (gok_more ok1 hp hl r) (le_more ok1 hp) _ (.ref ?_)
      rw [← ok1.len]; simp
    | _ => exact False.elim o1
  | _ => exact False.elim o1

/-! ### reading -/
def Pk (c : Glb) (g : G) (x : D) (w : V) : Prop :=
  match x with
  | .lst ds => ∃ a vs, w = .ref a ∧ g.H a = some (.lst vs) ∧ ds.length ≤ lim ∧ Reps c.K (live g) g.H ds vs
  | x => Rep c.K (live g) g.H x w
theorem Rep.pk {g : G} {x : D} {w : V} (r : Rep c.K (live g) g.H x w) : Pk c g x w := by
  cases x with
  | lst ds => cases r with | lst h n hl r => exact ⟨_, _, rfl, h, hl, r⟩
  | _ => exact r
theorem peek_ok {g : G} {v : Vl} {x : D} {w : V} (ok : GOk c g) (r : RepV c g v w) (h : peek g.S v = some x) : Pk c g x w := by
  cases r with
  | d r => cases h; exact r.pk
  | @ref n a e =>
    have h : (match (g.S : List Cell)[n]? with | some (.lst ds) => some (D.lst ds) | some (.fzn ds) => some (.lst ds) | _ => none) = some x := h
    split at h
    · rename_i ds hs
      cases h
      obtain ⟨vs, h1, hl, h2⟩ := ok.cell _ _ _ e hs
      exact ⟨_, vs, rfl, h1, hl, h2⟩
    · rename_i ds hs
      cases h
      exact Rep.pk (ok.cell _ _ _ e hs)
    · cases h
  | fnv e => cases h
  | exn e => cases h
  | clo => cases h
  | scr => cases h

section
open Sem (wp)
open AutoSeq1 (wpAny_loadPart')
theorem tuple_mul1 (l : Addr) (items : Array Value) (n : Nat) (dd : Option Addr) (sl : Array (Option Value)) (x : Int) (u : Tok) (c0 : (decide (x < -(2 ^ 63)) || decide (x ≥ 2 ^ 63)) = false) (c1 : (items.isEmpty || x == 1) = true) :
    Meets (Builtin.«tuple.__mul__» ⟨[.ref l, .int x u], []⟩) (fun _ R s => s.heap.get? l = some { cls := .type "tuple", dict := dd, data := .seq items n, slots := sl } ∧ R (.ok (.ret (Value.ref l))) s) :=
  .of_wp fun prog w A R s h => by
    obtain ⟨hp, g, d, tk, os⟩ := s
    obtain ⟨hl, h⟩ := h
    have f1 := AutoSeq1.idx_int
    wp_walk using wpAny_loadPart' hl
    repeat (first
      | (refine wpAny_ite_false (decide_eq_false (by rw [c0]; exact Bool.false_ne_true)) ?_; wp_walk using wpAny_loadPart' hl)
      | (refine wpAny_ite_true (decide_eq_true (by rw [c1])) ?_; wp_walk using wpAny_loadPart' hl))
    exact ⟨_, rfl, h⟩
end
def rRep1 (K : PySem.W.Frag) : R2 := fun x y H Q => ∃ l xs, x = .ref l ∧ y = .int 1 ∧ SqT K H l xs ∧ Q (.ref l) H
theorem op_rep1 {X : Cx} : OpR X (binaryOp .Mult) (rRep1 X.K) := by
  intro pins s σ H x y v u Q I rx ry h
  obtain ⟨l, xs, rfl, rfl, hT, q⟩ := h
  cases rx
  obtain ⟨t, rfl⟩ := ry
  obtain ⟨its, r, ⟨⟨cls, dd, data, sl⟩, ho, hc, n, hd⟩, hs⟩ := I.tuple hT
  simp only at hc hd
  subst hc hd
  exact wpAny_binaryOp_repeat_ref (T := "tuple") (U := "int") (by decide) ⟨_, ho, rfl⟩ (fun s' => typeIs_int s' 1 t) noFill_tuple_mul F.fills_int_mul F.slot_int_rmul repeat_tuple F.slot_int_index.lookup
    (call_meets F.slot_int_rmul (typeIs_int s 1 t) F.entry_int_rmul (F.args_int_rmul_2 _ _) (int_rmul_tuple 1 t l its.toArray n dd sl)
      ⟨ho, rfl, ⟨_, ho, rfl⟩, call_meets F.slot_tuple_mul ⟨_, ho, rfl⟩ F.entry_tuple_mul (F.args_tuple_mul_2 _ _) (tuple_mul1 l its.toArray n dd sl 1 t (by decide) (by simp)) ⟨ho, ⟨.ref l, H, I, rfl, q⟩⟩⟩)
/-! ### operators -/
def opOf : Op → Operator
  | .add => .Add | .sub => .Sub | .mul => .Mult | .fdiv => .FloorDiv | .mod => .Mod | .pow => .Pow
def rOp (K : PySem.W.Frag) : Op → R2
  | .add => fun x y H Q => ((rI0 fun i j => .int (i + j)) x y H Q ∨ (∃ i j, x = .str i ∧ y = .str j ∧ i.length + j.length ≤ sizeLine ∧ Q (.str (i ++ j)) H)) ∨ (rCatA K x y H Q ∨ rCat x y H Q)
  | .sub => rI0 fun i j => .int (i - j)
  | .mul => fun x y H Q => (rI CMul fun i j => .int (i * j)) x y H Q ∨ (rRep x y H Q ∨ (rRepT K x y H Q ∨ rRep1 K x y H Q))
  | .fdiv => rI CDiv fun i j => .int (i / j)
  | .mod => rI (fun _ j => 0 < j) fun i j => .int (i % j)
  | .pow => rI CPow fun i j => .int (i ^ j.toNat)
theorem opr (X : Cx) : ∀ o : Op, OpR X (binaryOp (opOf o)) (rOp X.K o)
  | .add => (op_add.or op_add_str).or (op_catA.or op_cat)
  | .sub => op_sub
  | .mul => op_mul.or (op_rep.or (op_repT.or op_rep1))
  | .fdiv => op_fdiv
  | .mod => op_mod
  | .pow => op_pow
theorem lim_eq : lim = sizeLine := by rw [sizeLine_eq]; rfl
theorem OutN.sc {g : G} {z : D} {w : V} {Q : VK} (ok : GOk c g) (h : OutN c g z Q) (r : Rep c.K (live g) g.H z w) (nl : ∀ ds, z ≠ .lst ds) : Q w g.H := by
  cases z with
  | lst ds => exact absurd rfl (nl ds)
  | _ => exact h g.H w ok (Le.refl g) r
theorem OutN.tup {g : G} {ds : List D} {vs : List V} {p : Addr} {Q : VK} (ok : GOk c g) (h : OutN c g (.tup ds) Q) (hp : g.H p = none) (hl : ds.length ≤ lim) (r : Reps c.K (live g) g.H ds vs) : Q (.ref p) (upd g.H p (.tup vs)) :=
  h _ _ (gok_laid ok hp) (le_laid ok hp) (.tup (.inl upd_same) hl (Reps.mo (mo_laid ok hp) _ _ r))
theorem okS_app {a b : List Nat} (ha : okS a) (hb : okS b) : okS (a ++ b) := fun c hc => by
  rcases List.mem_append.mp hc with z | z
  · exact ha c z
  · exact hb c z
theorem op_ok {g : G} {o : Op} {x y z : D} {wx wy : V} {Q : VK} (ok : GOk c g) (hx : Pk c g x wx) (hy : Pk c g y wy) (h : opD o x y = some z) (q : OutN c g z Q) : rOp c.K o wx wy g.H Q := by
  unfold opD at h
  split at h
  · cases h; cases hx; cases hy
    exact .inl (.inl ⟨_, _, rfl, rfl, q.sc ok (.int _) (fun _ z => by cases z)⟩)
  · cases h; cases hx; cases hy
    exact ⟨_, _, rfl, rfl, q.sc ok (.int _) (fun _ z => by cases z)⟩
  · rename_i i j
    split at h
    · rename_i hs
      cases h; cases hx; cases hy
      refine .inl ⟨_, _, rfl, rfl, ?_, q.sc ok (.int _) (fun _ z => by cases z)⟩
      simpa [smallI, CMul] using hs
    · cases h
  · split at h
    · rename_i hs
      cases h; cases hx; cases hy
      exact ⟨_, _, rfl, rfl, hs, q.sc ok (.int _) (fun _ z => by cases z)⟩
    · cases h
  · split at h
    · rename_i hs
      cases h; cases hx; cases hy
      exact ⟨_, _, rfl, rfl, hs, q.sc ok (.int _) (fun _ z => by cases z)⟩
    · cases h
  · split at h
    · rename_i hs
      cases h; cases hx; cases hy
      exact ⟨_, _, rfl, rfl, hs, q.sc ok (.int _) (fun _ z => by cases z)⟩
    · cases h
  · split at h
    · rename_i hs
      cases h
      cases hx with
      | str ox =>
        cases hy with
        | str oy =>
          refine .inl (.inr ⟨_, _, rfl, rfl, by rw [SS_length, SS_length, ← lim_eq]; exact hs, ?_⟩)
          rw [SS_app]
          exact q.sc ok (.str (okS_app ox oy)) (fun _ z => by cases z)
    · cases h
  · split at h
    · rename_i hs
      cases h
      cases hx with
      | @tup a ds vs sx lx rx =>
        cases hy with
        | @tup b es ws sy ly ry =>
          refine .inr (.inl ⟨a, b, vs, ws, rfl, rfl, sx.sq, sy.sq, by rw [← rx.length, ← ry.length, ← lim_eq]; exact hs, fun e => ?_, fun e1 e2 => ?_, fun e1 e2 p hp => ?_⟩)
          · subst e
            cases rx
            exact q.sc ok (.tup sy ly ry) (fun _ z => by cases z)
          · subst e2
            cases ry
            rw [List.append_nil] at q
            exact q.sc ok (.tup sx lx rx) (fun _ z => by cases z)
          · exact q.tup ok hp (by rw [List.length_append]; exact hs) (rx.app ry)
    · cases h
  · split at h
    · rename_i hs
      cases h
      obtain ⟨a, vs, rfl, h1, l1, r1⟩ := hx
      obtain ⟨b, ws, rfl, h2, l2, r2⟩ := hy
      exact .inr (.inr ⟨a, b, vs, ws, rfl, rfl, h1, h2, by rw [← r1.length, ← r2.length, ← lim_eq]; exact hs, fun p hp => q p _ hp (by rw [List.length_append]; exact hs) (r1.app r2)⟩)
    · cases h
  · split at h
    · rename_i hs
      cases h; cases hy
      obtain ⟨a, vs, rfl, h1, l1, r1⟩ := hx
      refine .inr (.inl ⟨a, _, vs, rfl, rfl, h1, hs.1, hs.2.1, by rw [← r1.length, ← lim_eq]; exact hs.2.2, fun p hp => q p _ hp ?_ (r1.flat _)⟩)
      simp
      rw [Nat.mul_comm]
      exact hs.2.2
    · cases h
  · split at h
    · rename_i hk
      subst hk
      cases h; cases hy
      cases hx with
      | @tup a ds vs sx lx rx => exact .inr (.inr (.inr ⟨a, vs, rfl, rfl, sx.sq, q.sc ok (.tup sx lx rx) (fun _ z => by cases z)⟩))
    split at h
    · rename_i hs
      cases h; cases hy
      cases hx with
      | @tup a ds vs sx lx rx =>
        refine .inr (.inr (.inl ⟨a, _, vs, rfl, rfl, sx.sq, ?_, hs.2.1, hs.2.2.1, by rw [← rx.length]; exact hs.2.2.2, fun p hp => q.tup ok hp ?_ (rx.flat _)⟩))
        · intro e; subst e; cases rx; exact hs.1 rfl
        · simp
          have h1 := hs.2.2.2
          have h2 := hs.2.2.1
          exact Nat.le_trans (Nat.mul_le_mul (show _ ≤ 1000 by omega) h1) (by decide)
    · cases h
  · cases h
end
end EV
end

section
set_option Elab.async false
set_option linter.all false
set_option maxRecDepth 100000
set_option maxHeartbeats 1000000
/-! EV4: constructs of expressions, one by one -/
namespace EV
open PySem PySem.Spec PyProof.Rows L2
section
variable {c : Glb} {U : Env} {W : WX} {X : Cx} {e a b : Expr} {l la lb : LE} {pos : Pos}
theorem se_const {d : D} {w : V} (h : PE X e (tC w)) (r : ∀ L H, Rep c.K L H d w) : PE X e (tEv c U W (.lit d)) := PE.imp h fun σ H Q => by
  rintro ⟨g, loc, rfl, ok, lo, out⟩
  exact (Out.here out ok) w (.d (r _ _))
theorem se_glob {x : String} {v : Vl} {w : V} (h : PE X e (tC w)) (r : ∀ g, RepV c g v w) : PE X e (tEv c U W (.glob x v)) := PE.imp h fun σ H Q => by
  rintro ⟨g, loc, rfl, ok, lo, out⟩
  exact (Out.here out ok) w (r _)
theorem se_var {i : Nat} (h : PE X e (tVar i)) : PE X e (tEv c U W (.var i)) := PE.imp h fun σ H Q => by
  rintro ⟨g, loc, rfl, ok, lo, out⟩
  have out : Out c g W σ (match loc[i]? with | some (some v) => R.ok v g.S | _ => .stuck) _ := out
  split at out
  · rename_i v hv
    obtain ⟨w, h1, h2⟩ := lo.at_ i v hv
    exact ⟨w, h1, (Out.here out ok) w h2⟩
  · exact out.elim
theorem se_op {o : Op} (hK : X.K = c.K) (ha : PE X a (tEv c U W la)) (hb : PE X b (tEv c U W lb)) : PE X (.BinOp a (opOf o) b pos) (tEvN c U W (.op o la lb)) := PE.imp (pe_op (opr X o) ha hb) fun σ H Q => by
  rintro ⟨g, loc, rfl, ok, lo, out⟩
  refine ⟨g, loc, rfl, ok, lo, (Out.bind out).imp fun v g1 ⟨le1, ok1, out1⟩ w rw1 => ?_⟩
  refine ⟨g1, loc, rfl, ok1, lo.le ok le1, (Out.bind out1).imp fun v2 g2 ⟨le2, ok2, out2⟩ w2 rw2 => ?_⟩
  cases h1 : peek g2.S v with
  | none => rw [h1] at out2; exact out2.elim
  | some x =>
    cases h2 : peek g2.S v2 with
    | none => rw [h1, h2] at out2; exact out2.elim
    | some y =>
      rw [h1, h2] at out2
      obtain ⟨z, hz, q⟩ := Out.opt out2
      obtain ⟨z', e', q'⟩ := Out.here q ok2
      cases e'
      rw [hK]
      exact op_ok ok2 (peek_ok ok2 (rw1.le ok1 le2) h1) (peek_ok ok2 rw2 h2) hz q'
theorem hd_op {o : Op} : ∀ loc S v S', evE U (.op o la lb) loc S = .ok v S' → ∃ z, v = .d z := by
  intro loc S v S' h
  simp only [evE] at h
  cases h1 : evE U la loc S with
  | ok v1 S1 =>
    rw [h1] at h; simp only [R.bind_ok] at h
    cases h2 : evE U lb loc S1 with
    | ok v2 S2 =>
      rw [h2] at h; simp only [R.bind_ok] at h
      split at h
      · rename_i x y _ _
        cases h3 : opD o x y with
        | none => rw [h3] at h; cases h
        | some z => rw [h3] at h; cases h; exact ⟨_, rfl⟩
      · cases h
    | exc => rw [h2] at h; cases h
    | stuck => rw [h2] at h; cases h
  | exc => rw [h1] at h; cases h
  | stuck => rw [h1] at h; cases h
theorem se_neg (ha : PE X a (tEv c U W la)) : PE X (.UnaryOp .USub a pos) (tEv c U W (.neg la)) := PE.imp (pe_un un_neg ha) fun σ H Q => by
  rintro ⟨g, loc, rfl, ok, lo, out⟩
  refine ⟨g, loc, rfl, ok, lo, (Out.bind out).imp fun v g1 ⟨le1, ok1, out1⟩ w rw1 => ?_⟩
  cases rw1 with
  | d r =>
    cases r with
    | int i => exact ⟨i, rfl, (Out.here out1 ok1) _ (.d (.int _))⟩
    | _ => exact False.elim out1
  | _ => exact False.elim out1
theorem asBool_rep {g : G} {v : Vl} {w : V} {k : Bool} (r : RepV c g v w) (h : asBool v = some k) : w = .bl k := by
  unfold asBool at h
  split at h
  · cases h
    cases r with
    | d r => cases r; rfl
  · cases h
theorem se_not (ha : PE X a (tEv c U W la)) : PE X (.UnaryOp .Not a pos) (tEv c U W (.not la)) := PE.imp (pe_not ha) fun σ H Q => by
  rintro ⟨g, loc, rfl, ok, lo, out⟩
  refine ⟨g, loc, rfl, ok, lo, (Out.bind out).imp fun v g1 ⟨le1, ok1, out1⟩ w rw1 => ?_⟩
  obtain ⟨k, hk, q⟩ := Out.opt out1
  exact ⟨k, asBool_rep rw1 hk, (Out.here q ok1) _ (.d (.bl _))⟩
/-- a test of an expression whose value is a bool -/
theorem st_val (ha : PE X e (tEv c U W l)) (he : ∀ whole, isTrue e X.env whole = (do let v ← whole; standAt e.pos; holding [v] (truthy v))) : PT X e (tTv c U W l) := PT.imp (pt_val ha he) fun σ H Q => by
  rintro ⟨g, loc, rfl, ok, lo, out⟩
  refine ⟨g, loc, rfl, ok, lo, out.imp fun v g1 ⟨k, hk, q⟩ w rw1 => ⟨k, asBool_rep rw1 hk, q⟩⟩
theorem st_not (ha : PT X a (tTv c U W la)) : PT X (.UnaryOp .Not a pos) (tTv c U W (.not la)) := PT.imp (pt_not ha) fun σ H Q => by
  rintro ⟨g, loc, rfl, ok, lo, out⟩
  refine ⟨g, loc, rfl, ok, lo, (Out.bind out).imp fun v g1 ⟨le1, ok1, out1⟩ => ?_⟩
  obtain ⟨k, hk, q⟩ := Out.opt out1
  obtain ⟨k', hk', q'⟩ := Out.here q ok1
  cases hk'
  exact ⟨k, hk, q'⟩
end
end EV
end

section
set_option Elab.async false
set_option linter.all false
set_option maxRecDepth 100000
set_option maxHeartbeats 1000000
/-! EV5: comparisons, and, or, displays -/
namespace EV
open PySem PySem.Spec PyProof.Rows L2
/-! ### data as the library's -/
theorem toPys_map : ∀ ds : List D, toPys ds = ds.map toPy
  | [] => rfl
  | d :: ds => by simp [toPys, toPys_map ds]
mutual
theorem depth_toPy : ∀ d : D, (toPy d).depth = dep d
  | .non => rfl
  | .bl _ => rfl
  | .int _ => rfl
  | .str _ => rfl
  | .tup ds => by simp [toPy, PyData.depth, dep, depth_toPys ds]
  | .lst ds => by simp [toPy, PyData.depth, dep, depth_toPys ds]
theorem depth_toPys : ∀ ds : List D, PyData.depthAll (toPys ds) = deps ds
  | [] => rfl
  | d :: ds => by simp [toPys, PyData.depthAll, deps, depth_toPy d, depth_toPys ds]
end
theorem SS_beq (x y : List Nat) : (SS x == SS y) = (x == y) := by
  by_cases e : x = y
  · subst e; simp
  · have e2 : SS x ≠ SS y := fun h => e (SS_inj h)
    rw [beq_eq_false_iff_ne.mpr e, beq_eq_false_iff_ne.mpr e2]
mutual
theorem eqv_toPy : ∀ x y : D, PyData.eqv (toPy x) (toPy y) = eqD x y
  | .non, y => by cases y <;> simp [toPy, PyData.eqv, eqD]
  | .bl a, y => by cases y <;> simp [toPy, PyData.eqv, eqD]
  | .int a, y => by cases y <;> simp [toPy, PyData.eqv, eqD]
  | .str a, y => by cases y <;> simp [toPy, PyData.eqv, eqD, SS_beq]
  | .tup xs, y => by cases y <;> simp [toPy, PyData.eqv, eqD, eqv_toPys xs]
  | .lst xs, y => by cases y <;> simp [toPy, PyData.eqv, eqD, eqv_toPys xs]
theorem eqv_toPys : ∀ xs ys : List D, PyData.eqvAll (toPys xs) (toPys ys) = eqDs xs ys
  | [], [] => by simp [toPys, PyData.eqvAll, eqDs]
  | [], _ :: _ => by simp [toPys, PyData.eqvAll, eqDs]
  | _ :: _, [] => by simp [toPys, PyData.eqvAll, eqDs]
  | x :: xs, y :: ys => by simp [toPys, PyData.eqvAll, eqDs, eqv_toPy x y, eqv_toPys xs ys]
end
mutual
theorem Rep.dp {K : PySem.W.Frag} {L : Addr → Prop} {H : Hp} : ∀ (d : D) (w : V), Rep K L H d w → Dp K H w (toPy d) ∧ (toPy d).canLay0 = true
  | .non, _, h => by cases h; exact ⟨.non, rfl⟩
  | .bl b, _, h => by cases h; exact ⟨.bl b, rfl⟩
  | .int i, _, h => by cases h; exact ⟨.int i, rfl⟩
  | .str s, _, h => by cases h with | str o => exact ⟨.str _, by simp only [toPy, PyData.canLay0]; exact o.strOk⟩
  | .tup ds, _, h => by
    cases h with
    | tup hs hl hr =>
      obtain ⟨h1, h2⟩ := Reps.dp ds _ hr
      exact ⟨.tup hs.sq h1, by simp only [toPy, PyData.canLay0]; exact h2⟩
  | .lst ds, _, h => by
    cases h with
    | lst hs hn hl hr =>
      obtain ⟨h1, h2⟩ := Reps.dp ds _ hr
      exact ⟨.lst (SqL.of hs) h1, by simp only [toPy, PyData.canLay0]; exact h2⟩
theorem Reps.dp {K : PySem.W.Frag} {L : Addr → Prop} {H : Hp} : ∀ (ds : List D) (ws : List V), Reps K L H ds ws → DpAll K H ws (toPys ds) ∧ PyData.canLayAll0 (toPys ds) = true
  | [], _, h => by cases h; exact ⟨.nil, rfl⟩
  | d :: ds, _, h => by
    cases h with
    | cons h1 h2 =>
      obtain ⟨a1, a2⟩ := Rep.dp d _ h1
      obtain ⟨b1, b2⟩ := Reps.dp ds _ h2
      exact ⟨.cons a1 b1, by simp [toPys, PyData.canLayAll0, a2, b2]⟩
end
theorem Pk.dp {c : Glb} {g : G} {x : D} {w : V} (h : Pk c g x w) : Dp c.K g.H w (toPy x) ∧ (toPy x).canLay0 = true := by
  cases x with
  | lst ds =>
    obtain ⟨a, vs, rfl, h1, _, h2⟩ := h
    obtain ⟨b1, b2⟩ := Reps.dp ds _ h2
    exact ⟨.lst (SqL.of h1) b1, by simp only [toPy, PyData.canLay0]; exact b2⟩
  | _ => exact Rep.dp _ _ h
theorem lexI_eq : ∀ x y : List Int, lexI x y = HT.lexLt x y
  | [], [] => rfl
  | [], _ :: _ => rfl
  | _ :: _, [] => rfl
  | a :: x, b :: y => by simp only [lexI, HT.lexLt_cons, lexI_eq x y]
theorem intsOf_rep {K : PySem.W.Frag} {L : Addr → Prop} {H : Hp} : ∀ {ds : List D} {ns : List Int} {vs : List V}, intsOf ds = some ns → Reps K L H ds vs → vs = ns.map V.int
  | [], ns, vs, h, r => by cases h; cases r; rfl
  | d :: ds, ns, vs, h, r => by
    cases r with
    | cons r1 r2 =>
      cases d with
      | int i =>
        cases e : intsOf ds with
        | none => rw [intsOf, e] at h; cases h
        | some ms => rw [intsOf, e] at h; cases h; cases r1; rw [intsOf_rep e r2]; rfl
      | _ => cases h
/-! ### comparisons -/
def cmOf : Cm → CmpOp
  | .eq => .Eq | .ne => .NotEq | .lt => .Lt | .le => .LtE | .gt => .Gt | .ge => .GtE | .is => .Is | .isnot => .IsNot | .isin => .In | .notin => .NotIn
def rEqA (K : PySem.W.Frag) (n : Bool) : R2 := fun x y H Q => ∃ d e, Dp K H x d ∧ Dp K H y e ∧ d.canLay0 = true ∧ e.canLay0 = true ∧ min d.depth e.depth ≤ 64 ∧ Q (.bl (if n then !PyData.eqv d e else PyData.eqv d e)) H
def rInA (K : PySem.W.Frag) (n : Bool) : R2 := fun x y H Q => ∃ d ds, Dp K H x d ∧ (Dp K H y (.list ds) ∨ Dp K H y (.tuple ds)) ∧ d.canLay0 = true ∧ PyData.canLayAll0 ds = true ∧ d.depth ≤ 64 ∧ Q (.bl (if n then !(ds.any fun z => PyData.eqv z d) else ds.any fun z => PyData.eqv z d)) H
def rBin (f : Bool → Bool → Bool) : R2 := fun x y H Q => ∃ a b, x = .bl a ∧ y = .bl b ∧ Q (.bl (f a b)) H
section
variable {X : Cx}
theorem op_eqA (hu : X.A.units + 200 < cLine) : OpR X (compareOp .Eq) (rEqA X.K false) := by
  intro pins s σ H x y v u Q I rx ry h
  obtain ⟨d, e, hd, he, sd, se, hm, q⟩ := h
  obtain ⟨as, r1⟩ := Dp.reads I d x v hd rx
  obtain ⟨bs, r2⟩ := Dp.reads I e y u he ry
  exact SeqAt.compareEq_reads r1 r2 sd se (by omega) ⟨.bl _, H, I, rfl, q⟩
theorem op_neA (hu : X.A.units + 200 < cLine) : OpR X (compareOp .NotEq) (rEqA X.K true) := by
  intro pins s σ H x y v u Q I rx ry h
  obtain ⟨d, e, hd, he, sd, se, hm, q⟩ := h
  obtain ⟨as, r1⟩ := Dp.reads I d x v hd rx
  obtain ⟨bs, r2⟩ := Dp.reads I e y u he ry
  exact SeqAt.compareNe_reads r1 r2 sd se (by omega) ⟨.bl _, H, I, rfl, q⟩
theorem op_inA (hu : X.A.units + 200 < cLine) : OpR X (compareOp .In) (rInA X.K false) := by
  intro pins s σ H x y v u Q I rx ry h
  obtain ⟨d, ds, hd, he, sd, se, hm, q⟩ := h
  obtain ⟨as, r1⟩ := Dp.reads I d x v hd rx
  rcases he with he | he
  · obtain ⟨bs, r2⟩ := Dp.reads I _ y u he ry
    exact SeqAt.in_list_reads r2 r1 se sd (by omega) ⟨.bl _, H, I, rfl, q⟩
  · obtain ⟨bs, r2⟩ := Dp.reads I _ y u he ry
    exact SeqAt.in_tuple_reads r2 r1 se sd (by omega) ⟨.bl _, H, I, rfl, q⟩
theorem op_notinA (hu : X.A.units + 200 < cLine) : OpR X (compareOp .NotIn) (rInA X.K true) := by
  intro pins s σ H x y v u Q I rx ry h
  obtain ⟨d, ds, hd, he, sd, se, hm, q⟩ := h
  obtain ⟨as, r1⟩ := Dp.reads I d x v hd rx
  rcases he with he | he
  · obtain ⟨bs, r2⟩ := Dp.reads I _ y u he ry
    exact SeqAt.notIn_list_reads r2 r1 se sd (by omega) ⟨.bl _, H, I, rfl, q⟩
  · obtain ⟨bs, r2⟩ := Dp.reads I _ y u he ry
    exact SeqAt.notIn_tuple_reads r2 r1 se sd (by omega) ⟨.bl _, H, I, rfl, q⟩
def rCm (K : PySem.W.Frag) : Cm → R2
  | .eq => rEqA K false
  | .ne => rEqA K true
  | .lt => fun x y H Q => ((rI0 fun i j => .bl (decide (i < j))) x y H Q ∨ (∃ i j, x = .str i ∧ y = .str j ∧ Q (.bl (decide (i.cps.toList < j.cps.toList))) H)) ∨ rLtT K x y H Q
  | .le => fun x y H Q => (rI0 fun i j => .bl (decide (i ≤ j))) x y H Q ∨ (∃ i j, x = .str i ∧ y = .str j ∧ Q (.bl (!decide (j.cps.toList < i.cps.toList))) H)
  | .gt => fun x y H Q => (rI0 fun i j => .bl (decide (j < i))) x y H Q ∨ (∃ i j, x = .str i ∧ y = .str j ∧ Q (.bl (decide (j.cps.toList < i.cps.toList))) H)
  | .ge => fun x y H Q => (rI0 fun i j => .bl (decide (j ≤ i))) x y H Q ∨ (∃ i j, x = .str i ∧ y = .str j ∧ Q (.bl (!decide (i.cps.toList < j.cps.toList))) H)
  | .is => fun x y H Q => (y = .non ∧ Q (.bl (decide (x = .non))) H) ∨ rIsB x y H Q
  | .isnot => fun x y H Q => (y = .non ∧ Q (.bl (!decide (x = .non))) H) ∨ rNotB x y H Q
  | .isin => fun x y H Q => (∃ (k : Nat) (z : Str), x = .str ⟨#[k]⟩ ∧ y = .str z ∧ Q (.bl (decide (k ∈ z.cps.toList))) H) ∨ rInA K false x y H Q
  | .notin => fun x y H Q => (∃ (k : Nat) (z : Str), x = .str ⟨#[k]⟩ ∧ y = .str z ∧ Q (.bl (!decide (k ∈ z.cps.toList))) H) ∨ rInA K true x y H Q
theorem cmr (hu : X.A.units + 200 < cLine) : ∀ o : Cm, OpR X (compareOp (cmOf o)) (rCm X.K o)
  | .eq => op_eqA hu
  | .ne => op_neA hu
  | .lt => (op_lt.or op_lt_str).or (op_ltT (by omega))
  | .le => op_le.or op_le_str
  | .gt => op_gt.or op_gt_str
  | .ge => op_ge.or op_ge_str
  | .is => op_isN.or op_isBl
  | .isnot => op_notN.or op_notBl
  | .isin => op_in_sign.or (op_inA hu)
  | .notin => op_notIn_sign.or (op_notinA hu)
end
theorem any_toPys (x : D) (ds : List D) : ((toPys ds).any fun z => PyData.eqv z (toPy x)) = inD x ds := by
  rw [toPys_map, List.any_map]
  unfold inD
  congr 1
  funext y
  exact eqv_toPy y x
theorem Pk.nonI {c : Glb} {g : G} {x : D} {w : V} (h : Pk c g x w) : decide (w = .non) = (match x with | .non => true | _ => false) := by
  cases x with
  | lst ds => obtain ⟨a, vs, rfl, _⟩ := h; simp
  | _ => cases h <;> simp
theorem contains_SS (k : Nat) (y : List Nat) : y.contains k = decide (k ∈ (SS y).cps.toList) := by
  rw [Bool.eq_iff_iff, decide_eq_true_iff]
  simp [SS]
theorem cm_ok {c : Glb} {g : G} {o : Cm} {x y : D} {wx wy : V} {k : Bool} {Q : VK} (hx : Pk c g x wx) (hy : Pk c g y wy) (h : cmD o x y = some k) (q : Q (.bl k) g.H) : rCm c.K o wx wy g.H Q := by
  have eqs : ∀ n : Bool, (if min (dep x) (dep y) ≤ 60 then some (if n then !eqD x y else eqD x y) else none) = some k → rEqA c.K n wx wy g.H Q := fun n h => by
    split at h
    · rename_i hm
      cases h
      obtain ⟨a1, a2⟩ := hx.dp
      obtain ⟨b1, b2⟩ := hy.dp
      refine ⟨_, _, a1, b1, a2, b2, by rw [depth_toPy, depth_toPy]; omega, ?_⟩
      rw [eqv_toPy]
      exact q
    · cases h
  have ins : ∀ (n : Bool) (ys : List D), (y = .lst ys ∨ y = .tup ys) → (if dep x ≤ 60 then some (if n then !inD x ys else inD x ys) else none) = some k → rInA c.K n wx wy g.H Q := fun n ys hy' h => by
    split at h
    · rename_i hm
      cases h
      obtain ⟨a1, a2⟩ := hx.dp
      obtain ⟨b1, b2⟩ := hy.dp
      refine ⟨_, toPys ys, a1, ?_, a2, ?_, by rw [depth_toPy]; omega, ?_⟩
      · rcases hy' with rfl | rfl
        · exact .inl b1
        · exact .inr b1
      · rcases hy' with rfl | rfl <;> (simp only [toPy, PyData.canLay0] at b2; exact b2)
      · rw [any_toPys]
        exact q
    · cases h
  unfold cmD at h
  split at h
  · exact eqs false h
  · exact eqs true h
  · cases h; cases hx; cases hy; exact .inl (.inl ⟨_, _, rfl, rfl, q⟩)
  · cases h; cases hx; cases hy; exact .inl ⟨_, _, rfl, rfl, q⟩
  · cases h; cases hx; cases hy; exact .inl ⟨_, _, rfl, rfl, q⟩
  · cases h; cases hx; cases hy; exact .inl ⟨_, _, rfl, rfl, q⟩
  · cases h; cases hx; cases hy; exact .inl (.inr ⟨_, _, rfl, rfl, q⟩)
  · cases h; cases hx; cases hy; exact .inr ⟨_, _, rfl, rfl, q⟩
  · cases h; cases hx; cases hy; exact .inr ⟨_, _, rfl, rfl, q⟩
  · cases h; cases hx; cases hy; exact .inr ⟨_, _, rfl, rfl, q⟩
  · split at h
    · rename_i ns ms h1 h2
      cases h
      cases hx with
      | tup s1 l1 r1 =>
        cases hy with
        | tup s2 l2 r2 =>
          rw [intsOf_rep h1 r1] at s1
          rw [intsOf_rep h2 r2] at s2
          rw [lexI_eq] at q
          exact .inr ⟨_, _, _, _, rfl, rfl, s1.sq, s2.sq, q⟩
    · cases h
  · cases h; cases hx; cases hy; exact .inl ⟨rfl, by simpa using q⟩
  · rename_i hn
    cases h; cases hy
    refine .inl ⟨rfl, ?_⟩
    rw [hx.nonI]
    cases x <;> first | exact q | exact absurd rfl hn
  · cases h; cases hx; cases hy; exact .inr ⟨_, _, rfl, rfl, by rw [← Bool.beq_eq_decide_eq]; exact q⟩
  · cases h; cases hx; cases hy; exact .inl ⟨rfl, by simpa using q⟩
  · rename_i hn
    cases h; cases hy
    refine .inl ⟨rfl, ?_⟩
    rw [hx.nonI]
    cases x <;> first | exact q | exact absurd rfl hn
  · cases h; cases hx; cases hy; exact .inr ⟨_, _, rfl, rfl, by rw [← Bool.beq_eq_decide_eq]; exact q⟩
  · cases h; cases hx; cases hy
    refine .inl ⟨_, _, rfl, rfl, ?_⟩
    rw [← contains_SS]
    exact q
  · cases h; cases hx; cases hy
    refine .inl ⟨_, _, rfl, rfl, ?_⟩
    rw [← contains_SS]
    exact q
  · exact .inr (ins false _ (.inr rfl) h)
  · exact .inr (ins false _ (.inl rfl) h)
  · exact .inr (ins true _ (.inr rfl) h)
  · exact .inr (ins true _ (.inl rfl) h)
  · cases h
def rDc : Cm → R2 := fun o x y H Q => (o = .isin ∧ ∃ a r, y = .ref a ∧ DGet H a x r ∧ Q (.bl r.isSome) H) ∨ (o = .notin ∧ ∃ a r, y = .ref a ∧ DGet H a x r ∧ Q (.bl (!r.isSome)) H)
theorem cmrD {X : Cx} (hu : X.A.units + 200 < cLine) (o : Cm) : OpR X (compareOp (cmOf o)) (fun x y H Q => rCm X.K o x y H Q ∨ rDc o x y H Q) := by
  intro pins s σ H x y v u Q I rx ry h
  rcases h with h | h
  · exact cmr hu o pins s σ H x y v u Q I rx ry h
  · have hu1 : X.A.units + 1 < cLine := by omega
    rcases h with ⟨rfl, a, r, rfl, dg, q⟩ | ⟨rfl, a, r, rfl, dg, q⟩
    · cases ry
      exact d_in hu1 I dg rx fun s' I' => ⟨.bl r.isSome, H, I', rfl, q⟩
    · cases ry
      exact d_notIn hu1 I dg rx fun s' I' => ⟨.bl (!r.isSome), H, I', rfl, q⟩
theorem kyOf_rep {K : PySem.W.Frag} {L : Addr → Prop} {H : Hp} {x : D} {k : Ky} {w : V} (r : Rep K L H x w) (h : kyOf x = some k) : w = kV (toK k) ∧ okK k := by
  cases r with
  | int i => cases h; exact ⟨rfl, True.intro⟩
  | str o => cases h; exact ⟨rfl, o⟩
  | _ => cases h
theorem ky_peek {c : Glb} {g : G} {v : Vl} {w : V} {k : Ky} (ok : GOk c g) (r : RepV c g v w) (h : (peek g.S v).bind kyOf = some k) : w = kV (toK k) ∧ okK k := by
  rw [Option.bind_eq_some_iff] at h
  obtain ⟨x, h1, h2⟩ := h
  have p := peek_ok ok r h1
  cases x with
  | int i => exact kyOf_rep p h2
  | str s => exact kyOf_rep p h2
  | _ => cases h2
theorem dicOf_ok {c : Glb} {g : G} {v : Vl} {w : V} {kvs : List (Ky × D)} (ok : GOk c g) (r : RepV c g v w) (h : dicOf g.S v = some kvs) : ∃ (n : Nat) (a : Addr) (vs : List (Key × V)), v = .ref n ∧ w = .ref a ∧ g.ρ[n]? = some a ∧ ((g.S : List Cell)[n]? = some (.dic kvs) ∧ g.H a = some (.dK vs) ∨ (g.S : List Cell)[n]? = some (.fzd kvs)) ∧ Rd g.H a (.dK vs) ∧ kvs.length ≤ lim ∧ RepKs c.K (live g) g.H kvs vs := by
  unfold dicOf at h
  split at h
  · rename_i n
    split at h
    · rename_i kvs' hs
      cases h
      cases r with
      | @ref _ a e =>
        obtain ⟨vs, q1, q2, q3⟩ := ok.cell n a _ e hs
        exact ⟨n, a, vs, rfl, rfl, e, .inl ⟨hs, q1⟩, .inl q1, q2, q3⟩
    · rename_i kvs' hs
      cases h
      cases r with
      | @ref _ a e =>
        obtain ⟨o, vs, q1, _, q2, q3⟩ := ok.cell n a _ e hs
        exact ⟨n, a, vs, rfl, rfl, e, .inr hs, .inr ⟨o, q1⟩, q2, q3⟩
    · cases h
  · cases h
theorem ditOf_ok {c : Glb} {g : G} {v : Vl} {w : V} {kvs : List (List Int × D)} (ok : GOk c g) (r : RepV c g v w) (h : ditOf g.S v = some kvs) : ∃ (n : Nat) (a : Addr) (vs : List (List Key × V)), v = .ref n ∧ w = .ref a ∧ g.ρ[n]? = some a ∧ (g.S : List Cell)[n]? = some (.dit kvs) ∧ g.H a = some (.dT vs) ∧ kvs.length ≤ lim ∧ RepTs c.K (live g) g.H kvs vs := by
  unfold ditOf at h
  split at h
  · rename_i n
    split at h
    · rename_i kvs' hs
      cases h
      cases r with
      | @ref _ a e =>
        obtain ⟨vs, q1, q2, q3⟩ := ok.cell n a _ e hs
        exact ⟨n, a, vs, rfl, rfl, e, hs, q1, q2, q3⟩
    · cases h
  · cases h
theorem kt_peek {c : Glb} {g : G} {v : Vl} {w : V} {k : List Int} (ok : GOk c g) (r : RepV c g v w) (h : (peek g.S v).bind keyT = some k) : ∃ b, w = .ref b ∧ g.H b = some (.tup ((k.map Sum.inl : List Key).map kV)) := by
  rw [Option.bind_eq_some_iff] at h
  obtain ⟨x, h1, h2⟩ := h
  have p := peek_ok ok r h1
  cases x with
  | tup ds => exact key_rep h2 p
  | _ => cases h2
theorem cmV_ok {c : Glb} {g : G} {o : Cm} {v u : Vl} {wx wy : V} {k : Bool} {Q : VK} (ok : GOk c g) (hx : RepV c g v wx) (hy : RepV c g u wy) (h : cmV o v u g.S = some k) (q : Q (.bl k) g.H) : rCm c.K o wx wy g.H Q ∨ rDc o wx wy g.H Q := by
  unfold cmV at h
  split at h
  · rename_i kvs hd
    obtain ⟨n, a, vs, rfl, rfl, e1, e2, e3, e4, e5⟩ := dicOf_ok ok hy hd
    split at h
    · rename_i k2 hk
      cases h
      obtain ⟨rfl, o2⟩ := ky_peek ok hx hk
      refine .inr (.inl ⟨rfl, a, _, rfl, .inl ⟨_, _, e3, rfl, rfl⟩, ?_⟩)
      rcases e5.val k2 with ⟨q1, q2⟩ | ⟨x, w, q1, q2, _⟩
      · rw [q2]; rw [q1] at q; exact q
      · rw [q2]; rw [q1] at q; exact q
    · rename_i k2 hk
      cases h
      obtain ⟨rfl, o2⟩ := ky_peek ok hx hk
      refine .inr (.inr ⟨rfl, a, _, rfl, .inl ⟨_, _, e3, rfl, rfl⟩, ?_⟩)
      rcases e5.val k2 with ⟨q1, q2⟩ | ⟨x, w, q1, q2, _⟩
      · rw [q2]; rw [q1] at q; exact q
      · rw [q2]; rw [q1] at q; exact q
    · cases h
  · split at h
    · rename_i kvs hd
      obtain ⟨n, a, vs, rfl, rfl, e1, e2, e3, e4, e5⟩ := ditOf_ok ok hy hd
      split at h
      · rename_i k2 hk
        cases h
        obtain ⟨b, rfl, hb⟩ := kt_peek ok hx hk
        refine .inr (.inl ⟨rfl, a, _, rfl, DGet.t e3 hb, ?_⟩)
        rcases e5.val k2 with ⟨q1, q2⟩ | ⟨x, w, q1, q2, _⟩
        · rw [q2]; rw [q1] at q; exact q
        · rw [q2]; rw [q1] at q; exact q
      · rename_i k2 hk
        cases h
        obtain ⟨b, rfl, hb⟩ := kt_peek ok hx hk
        refine .inr (.inr ⟨rfl, a, _, rfl, DGet.t e3 hb, ?_⟩)
        rcases e5.val k2 with ⟨q1, q2⟩ | ⟨x, w, q1, q2, _⟩
        · rw [q2]; rw [q1] at q; exact q
        · rw [q2]; rw [q1] at q; exact q
      · cases h
    · split at h
      · rename_i x y h1 h2
        exact .inl (cm_ok (peek_ok ok hx h1) (peek_ok ok hy h2) h q)
      · cases h
section
variable {c : Glb} {U : Env} {W : WX} {X : Cx} {e a b d : Expr} {l la lb ld : LE} {pos : Pos} {rest : List Expr}
theorem se_cmp {o : Cm} (hK : X.K = c.K) (hu : X.A.units + 200 < cLine) (ha : PE X a (tEv c U W la)) (hb : PE X b (tEv c U W lb)) (hm : behindInMarks (cmOf o) b = false) : PE X (.Compare a [cmOf o] [b] pos) (tEv c U W (.cmp o la lb)) :=
  PE.imp (pe_cmpR (cmrD hu o) ha hb hm) fun σ H Q => by
  rintro ⟨g, loc, rfl, ok, lo, out⟩
  refine ⟨g, loc, rfl, ok, lo, (Out.bind out).imp fun v g1 ⟨le1, ok1, out1⟩ w rw1 => ?_⟩
  refine ⟨g1, loc, rfl, ok1, lo.le ok le1, (Out.bind out1).imp fun v2 g2 ⟨le2, ok2, out2⟩ w2 rw2 => ?_⟩
  obtain ⟨k, hk, q⟩ := Out.opt out2
  rw [hK]
  exact cmV_ok ok2 (rw1.le ok1 le2) rw2 hk ((Out.here q ok2) _ (.d (.bl k)))
theorem st_cmp {o : Cm} (hK : X.K = c.K) (hu : X.A.units + 200 < cLine) (ha : PE X a (tEv c U W la)) (hb : PE X b (tEv c U W lb)) (hm : behindInMarks (cmOf o) b = false) : PT X (.Compare a [cmOf o] [b] pos) (tTv c U W (.cmp o la lb)) :=
  PT.imp (pt_cmpR (cmrD hu o) ha hb hm) fun σ H Q => by
  rintro ⟨g, loc, rfl, ok, lo, out⟩
  refine ⟨g, loc, rfl, ok, lo, (Out.bind out).imp fun v g1 ⟨le1, ok1, out1⟩ w rw1 => ?_⟩
  refine ⟨g1, loc, rfl, ok1, lo.le ok le1, (Out.bind out1).imp fun v2 g2 ⟨le2, ok2, out2⟩ w2 rw2 => ?_⟩
  obtain ⟨k, hk, q⟩ := Out.opt out2
  obtain ⟨k', e', q'⟩ := Out.here q ok2
  cases e'
  rw [hK]
  exact cmV_ok ok2 (rw1.le ok1 le2) rw2 hk ⟨k, rfl, q'⟩
theorem se_and (ha : PE X a (tEv c U W la)) (hb : PE X (.BoolOp .And (b :: rest) pos) (tEv c U W lb)) : PE X (.BoolOp .And (a :: b :: rest) pos) (tEv c U W (.and la lb)) := PE.imp (pe_and ha hb) fun σ H Q => by
  rintro ⟨g, loc, rfl, ok, lo, out⟩
  refine ⟨g, loc, rfl, ok, lo, (Out.bind out).imp fun v g1 ⟨le1, ok1, out1⟩ w rw1 => ?_⟩
  obtain ⟨k, hk, q⟩ := Out.opt out1
  refine ⟨k, asBool_rep rw1 hk, ?_⟩
  cases k with
  | true =>
    refine ⟨g1, loc, rfl, ok1, lo.le ok le1, (Out.bind q).imp fun v2 g2 ⟨le2, ok2, out2⟩ w2 rw2 => ?_⟩
    obtain ⟨m, hm, q2⟩ := Out.opt out2
    rw [asBool_rep rw2 hm]
    exact (Out.here q2 ok2) _ (.d (.bl m))
  | false => exact (Out.here q ok1) _ (.d (.bl _))
theorem se_or (ha : PE X a (tEv c U W la)) (hb : PE X (.BoolOp .Or (b :: rest) pos) (tEv c U W lb)) : PE X (.BoolOp .Or (a :: b :: rest) pos) (tEv c U W (.or la lb)) := PE.imp (pe_or ha hb) fun σ H Q => by
  rintro ⟨g, loc, rfl, ok, lo, out⟩
  refine ⟨g, loc, rfl, ok, lo, (Out.bind out).imp fun v g1 ⟨le1, ok1, out1⟩ w rw1 => ?_⟩
  obtain ⟨k, hk, q⟩ := Out.opt out1
  refine ⟨k, asBool_rep rw1 hk, ?_⟩
  cases k with
  | false =>
    refine ⟨g1, loc, rfl, ok1, lo.le ok le1, (Out.bind q).imp fun v2 g2 ⟨le2, ok2, out2⟩ w2 rw2 => ?_⟩
    obtain ⟨m, hm, q2⟩ := Out.opt out2
    rw [asBool_rep rw2 hm]
    exact (Out.here q2 ok2) _ (.d (.bl m))
  | true => exact (Out.here q ok1) _ (.d (.bl _))
theorem sw_and (ha : PT X a (tTv c U W la)) (hb : PW X (.BoolOp .And (b :: rest) pos) (tTv c U W lb)) : PW X (.BoolOp .And (a :: b :: rest) pos) (tTv c U W (.and la lb)) := PW.imp (pw_and ha hb) fun σ H Q => by
  rintro ⟨g, loc, rfl, ok, lo, out⟩
  refine ⟨g, loc, rfl, ok, lo, (Out.bind out).imp fun v g1 ⟨le1, ok1, out1⟩ => ?_⟩
  obtain ⟨k, hk, q⟩ := Out.opt out1
  refine ⟨k, hk, ?_⟩
  cases k with
  | true =>
    refine ⟨g1, loc, rfl, ok1, lo.le ok le1, (Out.bind q).imp fun v2 g2 ⟨le2, ok2, out2⟩ => ?_⟩
    obtain ⟨m, hm, q2⟩ := Out.opt out2
    obtain ⟨m', e', q'⟩ := Out.here q2 ok2
    cases e'
    exact ⟨m, hm, q'⟩
  | false =>
    obtain ⟨m', e', q'⟩ := Out.here q ok1
    cases e'
    exact q'
theorem sw_or (ha : PT X a (tTv c U W la)) (hb : PW X (.BoolOp .Or (b :: rest) pos) (tTv c U W lb)) : PW X (.BoolOp .Or (a :: b :: rest) pos) (tTv c U W (.or la lb)) := PW.imp (pw_or ha hb) fun σ H Q => by
  rintro ⟨g, loc, rfl, ok, lo, out⟩
  refine ⟨g, loc, rfl, ok, lo, (Out.bind out).imp fun v g1 ⟨le1, ok1, out1⟩ => ?_⟩
  obtain ⟨k, hk, q⟩ := Out.opt out1
  refine ⟨k, hk, ?_⟩
  cases k with
  | false =>
    refine ⟨g1, loc, rfl, ok1, lo.le ok le1, (Out.bind q).imp fun v2 g2 ⟨le2, ok2, out2⟩ => ?_⟩
    obtain ⟨m, hm, q2⟩ := Out.opt out2
    obtain ⟨m', e', q'⟩ := Out.here q2 ok2
    cases e'
    exact ⟨m, hm, q'⟩
  | true =>
    obtain ⟨m', e', q'⟩ := Out.here q ok1
    cases e'
    exact q'
theorem se_ife (hc : PT X d (tTv c U W ld)) (ha : PE X a (tEv c U W la)) (hb : PE X b (tEv c U W lb)) : PE X (.IfExp d a b pos) (tEv c U W (.ife ld la lb)) := PE.imp (pe_ifExp hc ha hb) fun σ H Q => by
  rintro ⟨g, loc, rfl, ok, lo, out⟩
  refine ⟨g, loc, rfl, ok, lo, (Out.bind out).imp fun v g1 ⟨le1, ok1, out1⟩ => ?_⟩
  obtain ⟨k, hk, q⟩ := Out.opt out1
  refine ⟨k, hk, ?_⟩
  cases k with
  | true => exact ⟨g1, loc, rfl, ok1, lo.le ok le1, q⟩
  | false => exact ⟨g1, loc, rfl, ok1, lo.le ok le1, q⟩
theorem se_chain {o p : Cm} (hK : X.K = c.K) (hu : X.A.units + 200 < cLine) (ha : PE X a (tEv c U W la)) (hb : PE X b (tEv c U W lb)) (hd : PE X d (tEv c U W ld)) (hm2 : behindInMarks (cmOf p) d = false) :
    PE X (.Compare a [cmOf o, cmOf p] [b, d] pos) (tEv c U W (.chain o p la lb ld)) := PE.imp (pe_chain (cmrD hu o) (cmrD hu p) ha hb hd hm2) fun σ H Q => by
  rintro ⟨g, loc, rfl, ok, lo, out⟩
  refine ⟨g, loc, rfl, ok, lo, (Out.bind out).imp fun v g1 ⟨le1, ok1, out1⟩ w rw1 => ?_⟩
  refine ⟨g1, loc, rfl, ok1, lo.le ok le1, (Out.bind out1).imp fun v2 g2 ⟨le2, ok2, out2⟩ w2 rw2 => ?_⟩
  obtain ⟨k, hk, q⟩ := Out.opt out2
  rw [hK]
  refine cmV_ok ok2 (rw1.le ok1 le2) rw2 hk ⟨k, rfl, ?_⟩
  cases k with
  | true =>
    refine ⟨g2, loc, rfl, ok2, (lo.le ok le1).le ok1 le2, (Out.bind q).imp fun v3 g3 ⟨le3, ok3, out3⟩ w3 rw3 => ?_⟩
    obtain ⟨m, hm, q3⟩ := Out.opt out3
    exact cmV_ok ok3 (rw2.le ok2 le3) rw3 hm ((Out.here q3 ok3) _ (.d (.bl m)))
  | false => exact (Out.here q ok2) _ (.d (.bl _))
end
end EV
end

section
set_option Elab.async false
set_option linter.all false
set_option maxRecDepth 100000
set_option maxHeartbeats 4000000
/-! EVG: a def's promise where nothing is being told by repr -/
namespace EV
open PySem PySem.Spec PyProof.Rows L2
/-- room, and no repr is under way -/
structure RoomG (k : Nat) (A : Around) : Prop where
  rm : Room k A
  gd : A.guards = some []
theorem RoomG.hd {k : Nat} {A : Around} (r : RoomG k A) : A.handled = none := r.rm.hd
theorem RoomG.un {k : Nat} {A : Around} (r : RoomG k A) : A.units + 16 * k + 200 < cLine := r.rm.un
theorem RoomG.depth {k : Nat} {A : Around} (r : RoomG k A) : A.depth < recursionLimit := r.rm.depth
theorem RoomG.units {k : Nat} {A : Around} (r : RoomG k A) : A.units + 64 < cLine := r.rm.units
theorem RoomG.units0 {k : Nat} {A : Around} (r : RoomG k A) : A.units < cLine := r.rm.units0
theorem RoomG.mono {j k : Nat} {A : Around} (r : RoomG k A) (h : j ≤ k) : RoomG j A := ⟨r.rm.mono h, r.gd⟩
theorem RoomG.deeper {k : Nat} {A : Around} (r : RoomG (k + 1) A) (env : PySem.Env) : RoomG k (A.deeper env) := ⟨r.rm.deeper env, r.gd⟩
theorem RoomG.in1 {k : Nat} {A : Around} (r : RoomG (k + 1) A) : RoomG k A.in1 := ⟨r.rm.in1, r.gd⟩
section
variable (P : Program) (w : World) (K : PySem.W.Frag) (mg : Str → Option Value) (base : PySem.Heap) (CX : CXT) (k : Nat) (f : Addr) (fd : FuncData) (ps : List Str) (sp : Sp)
/-- what a def promises to whom calls it with nothing under way -/
structure FnG : Prop where
  len : ∀ vs H Q E, sp vs H Q E → List.length vs = List.length ps
  run : ∀ (A : Around) (st : List PySem.Env) (s : Shared) (H : Hp) (as : Args) (us : List Value) (vs : List V) (Q : VK) (E : XK), RoomG k A → Env0 P w K mg base A st s H → BindsTo s fd as (ps.zip us) → Vals vs us → sp vs H Q E →
    codeAny (model P w) A (.call (.ref f) as) (CR CX st P w H s Q E) s
end
section
variable {P : Program} {w : World} {K : PySem.W.Frag} {mg : Str → Option Value} {base : PySem.Heap} {CX : CXT} {j k : Nat} {f : Addr} {fd : FuncData} {N ps : List Str} {sp sp' : Sp}
theorem FnG.mono (F : FnG P w K mg base CX j f fd ps sp) (h : j ≤ k) : FnG P w K mg base CX k f fd ps sp :=
  ⟨F.len, fun A st s H as us vs Q E r => F.run A st s H as us vs Q E (r.mono h)⟩
theorem FnG.imp (F : FnG P w K mg base CX k f fd ps sp) (h : ∀ vs H Q E, sp' vs H Q E → sp vs H Q E) : FnG P w K mg base CX k f fd ps sp' :=
  ⟨fun vs H Q E z => F.len vs H Q E (h vs H Q E z), fun A st s H as us vs Q E r e b t z => F.run A st s H as us vs Q E r e b t (h vs H Q E z)⟩
/-- the same promise of the two: a promise to all is one to these -/
theorem FnG.of (F : FnOk P w K mg base CX k f fd ps sp) : FnG P w K mg base CX k f fd ps sp :=
  ⟨F.len, fun A st s H as us vs Q E r => F.run A st s H as us vs Q E r.rm⟩
theorem fn_ofG {qual : Str} {sc : Scope} {nm : Str} {pr : Arguments} {bd : List Stmt} {dV kV dc pm cdv ct oc : Value} {an od : Option Addr} {sl : Array (Option Value)}
    (lk : K.lookup f = some ⟨oc, od, .func (PySem.W.fnOf nm qual pr bd sc dV kV dc pm an cdv ct), sl⟩) (ci : PySem.W.codeIn K cdv qual = true) (S : FnScope N ps sc) (len : ∀ vs H Q E, sp vs H Q E → vs.length = ps.length)
    (bdy : ∀ (A : Around) (st : List PySem.Env) (s : Shared) (H : Hp) (vs : List V) (Q : VK) (E : XK), RoomG k (A.deeper (envOfC qual sc s.heap.objs.size f cdv)) → sp vs H Q E →
      ∃ t, PSs (cxOf CX P w K mg base N qual sc f cdv A st s H E) bd t ∧ t { nx := fun _ H' => Q .non H', rt := Q } (start N vs) H) :
    FnG P w K mg base CX (k + 1) f (PySem.W.fnOf nm qual pr bd sc dV kV dc pm an cdv ct) ps sp := by
  constructor
  · exact len
  intro A st s H as us vs Q E r e bt rv hq
  have ln := len _ _ _ _ hq
  have kin : K.In s.heap := PySem.W.Frag.In.keeps e.mod.kin (fun b o z => (e.bs b o z).1)
  have nol : s.heap.NoLimit := Heap.NoLimit.keeps e.mod.nolimit (fun b o z => (e.bs b o z).1)
  have kd : ∀ y ∈ ps.zip us, sc.names.lookup y.1 = some .local ∨ (sc.names.lookup y.1 = some .cell ∧ ((cellsFrom (s.heap.objs.size + 1) sc.names []).lookup y.1).isSome = true) := by
    rintro ⟨n, v⟩ hy
    cases S.par n (List.of_mem_zip hy).1 with
    | inl q => left; exact q
    | inr q => right; exact ⟨q, PySem.W.cellsFrom_some _ _ _ (.inl q)⟩
  apply codeAny_call_function r.depth (kin _ _ lk) rfl S.co S.gen rfl (PySem.W.codeRec_of kin ci)
  apply bt
  apply wpAny_newFunctionEnv_cells S.kind kd
  intro env he s1 x
  subst he
  refine ⟨nol.keeps x.toInCall.keep, codeAny_func ?_⟩
  obtain ⟨t, ht, hz⟩ := bdy A st s H vs Q E (r.deeper _) hq
  have I := inv_start (CX := CX) (E := E) S r.hd e ln rv x
  have fin : ∀ {σ' : L2.St} {H' : Hp} {v : V} {u : Value}, Inv (cxOf CX P w K mg base N qual sc f cdv A st s H E) [] σ' H' s1 → True := fun _ => trivial
  refine wpAny_mono (ht.run [] s1 (start N vs) H _ I hz) (fun fl s2 h2 => ?_) (fun _ _ z => z)
  cases fl with
  | brk => obtain ⟨_, _, _, z⟩ := h2; cases z
  | cont => obtain ⟨_, _, _, z⟩ := h2; cases z
  | next =>
    obtain ⟨σ', H', J, z⟩ := h2
    exact ⟨V.non, H', J.os, J.bare, J.base, J.hok, rfl, z⟩
  | ret u =>
    obtain ⟨v, σ', H', J, q, z⟩ := h2
    exact ⟨v, H', J.os, J.bare, J.base, J.hok, q, z⟩
end
section
variable {X : Cx} {CX : CXT} {k : Nat} {f : Addr} {fd : FuncData} {ps : List Str} {sp : Sp} {E : L2.St → XK} {x : Str} {p pos : Pos} {e : Expr} {es : List Expr} {t : TA}
theorem run_fnG {pins : List (Addr × Obj)} {σ : L2.St} {H : Hp} {s : Shared} {Q : VK} {us : List Value} {vs : List V} (F : FnG X.prog X.w X.K X.mg X.base CX k f fd ps sp) (hr : RoomG k X.A) (hb : Binds X.K fd ps [])
    (hx : PassesAt CX X σ (E σ)) (I : Inv X pins σ H s) (r : Vals vs us) (h : sp vs H Q (E σ)) : wpAny (model X.prog X.w) X.A (call (.ref f) us) (EP X pins σ Q) X.xe s := by
  have len : us.length = ps.length := (r.length.symm).trans (F.len _ _ _ _ h)
  have bt : BindsTo s fd ⟨us, []⟩ (ps.zip us) := by
    have z := hb s us I.kIn (by simpa using len)
    simpa using z
  apply wpAny_call
  refine codeAny_mono (F.run X.A X.stack s H _ us vs Q (E σ) hr I.env0 bt r h) fun rs s2 h2 => ?_
  rcases rs with er | fl
  · exact hx pins H s er s2 I h2
  · cases fl with
    | ret u => exact I.after h2
    | next => cases h2
    | brk => cases h2
    | cont => cases h2
theorem pe_callG (F : FnG X.prog X.w X.K X.mg X.base CX k f fd ps sp) (hr : RoomG k X.A) (hg : Gl X x) (hm : X.mg x = some (.ref f)) (hk : PySem.W.keepIn X.K (.ref f) = true) (hb : Binds X.K fd ps []) (hx : ∀ σ, PassesAt CX X σ (E σ))
    (ha : PA X (e :: es) t) (nd : (x == ("__debug__" : Str)) = false) (he : starEach (e :: es) X.env = (false, eval e X.env) :: starEach es X.env) (hp : (backTo pos (starEach es X.env)).any (·.1) = false) :
    PE X (Expr.Call (Expr.Name x p) (e :: es) [] pos) (tCallS sp E t) := by
  constructor
  intro pins s σ H Q I h
  apply wpAny_Call_Name_kw (ld_glob I hg hm ?_ nd)
  apply PySem.W.callWith_K (h₀ := X.base) I.ok.mod.kin hk ?_ he hp
  exact thn (ha.run pos pins s σ H _ I h) fun us s1 ⟨vs, H1, I1, r, q⟩ => ⟨I1.kIn, run_fnG F hr hb (hx σ) I1 r q⟩
end
end EV
end

section
set_option Elab.async false
set_option linter.all false
set_option maxRecDepth 100000
set_option maxHeartbeats 1000000
/-! EV6: displays, parts, calls, built-ins -/
namespace EV
open PySem PySem.Spec PyProof.Rows L2
/-! ### shapes of expressions -/
def plainX : Expr → Bool
  | .Starred .. => false
  | .Set .. => false
  | .Slice .. => false
  | _ => true
def baseX : Expr → Bool
  | .Call (.Name x _) [] [] _ => x != "super"
  | _ => true
theorem star_cons {e : Expr} {es : List Expr} {env : PySem.Env} (h : plainX e = true) : starEach (e :: es) env = (false, eval e env) :: starEach es env := by
  cases e <;> first | rfl | cases h
theorem star_any {env : PySem.Env} : ∀ {es : List Expr}, es.all plainX = true → ∀ pos, (backTo pos (starEach es env)).any (·.1) = false
  | [], _, _ => rfl
  | e :: es, h, pos => by
    rw [List.all_cons, Bool.and_eq_true] at h
    rw [star_cons h.1]
    show (false || (backTo pos (starEach es env)).any (·.1)) = false
    rw [star_any h.2 pos]
    rfl
theorem star_all {env : PySem.Env} : ∀ {es : List Expr}, es.all plainX = true → ∀ pos, (backTo pos (starEach es env)).all (fun x => !x.1) = true
  | [], _, _ => rfl
  | e :: es, h, pos => by
    rw [List.all_cons, Bool.and_eq_true] at h
    rw [star_cons h.1]
    show (true && (backTo pos (starEach es env)).all (fun x => !x.1)) = true
    rw [star_all h.2 pos]
    rfl
theorem few_ok {env : PySem.Env} {es : List Expr} {pos : Pos} (h : es.all plainX = true) (hl : es.length < 20) : ((backTo pos (starEach es env)).all (fun x => !x.1) && (backToKw pos (keywordEach [] env)).all (fun x => x.1.isSome)
      && decide (es.length + ([] : List Keyword).length + (if ([] : List Keyword).isEmpty then 0 else 1) < 30)) = true := by
  rw [star_all h]
  simp [keywordEach, backToKw]
  omega
theorem base_ok {o : Expr} {name : Str} {env : PySem.Env} (h : baseX o = true) (w : Sem Value) : attributeBase o name env w = w := by
  unfold attributeBase
  split
  · rename_i id p pos
    have h : (id != ("super" : Str)) = true := h
    rw [h]
    simp
  · rfl
theorem nomark_ok {op : CmpOp} {b : Expr} (h : plainX b = true) : behindInMarks op b = false := by
  cases b <;> first | rfl | cases h
theorem plainIx_ok {b : Expr} (h : plainX b = true) : PlainIx b := fun o i => by
  cases b <;> first | rfl | cases h
/-! ### lists of values -/
section
variable {c : Glb} {g : G}
theorem take_ok (ok : GOk c g) {v : Vl} {w : V} {x : D} {S' : Sto} (r : RepV c g v w) (h : take g.S v = some (x, S')) : GOk c { g with S := S' } ∧ Le g { g with S := S' } ∧ Rep c.K (live { g with S := S' }) g.H x w := by
  cases r with
  | d r => cases h; exact ⟨ok, Le.refl g, r⟩
  | @ref n a e =>
    have h : (match (g.S : List Cell)[n]? with | some (.lst ds) => some (D.lst ds, g.S.set n (.fzn ds)) | some (.fzn ds) => some (.lst ds, g.S) | _ => none) = some (x, S') := h
    split at h
    · rename_i ds hs
      cases h
      obtain ⟨o, r⟩ := gok_fzn ok e hs
      exact ⟨o, le_fzn ok e hs, r⟩
    · rename_i ds hs
      cases h
      exact ⟨ok, Le.refl g, ok.cell _ _ _ e hs⟩
    · cases h
  | fnv e => cases h
  | exn e => cases h
  | clo => cases h
  | scr => cases h
theorem takes_ok : ∀ {vs : List Vl} {g : G} {ws : List V} {xs : List D} {S' : Sto}, GOk c g → RepVs c g vs ws → takes g.S vs = some (xs, S') → GOk c { g with S := S' } ∧ Le g { g with S := S' } ∧ Reps c.K (live { g with S := S' }) g.H xs ws
  | [], g, ws, xs, S', ok, r, h => by cases h; cases r; exact ⟨ok, Le.refl g, .nil⟩
  | v :: vs, g, ws, xs, S', ok, r, h => by
    cases r with
    | cons r1 r2 =>
      unfold takes at h
      split at h
      · rename_i x S1 h1
        split at h
        · rename_i ys S2 h2
          cases h
          obtain ⟨ok1, le1, q1⟩ := take_ok ok r1 h1
          obtain ⟨ok2, le2, q2⟩ := takes_ok (g := { g with S := S1 }) ok1 (r2.le ok le1) h2
          exact ⟨ok2, le1.trans le2, .cons (Rep.le (g := { g with S := S1 }) q1 ok1 le2) q2⟩
        · cases h
      · cases h
theorem takes_len : ∀ {vs : List Vl} {S : Sto} {xs : List D} {S' : Sto}, takes S vs = some (xs, S') → xs.length = vs.length
  | [], _, _, _, h => by cases h; rfl
  | v :: vs, S, xs, S', h => by
    unfold takes at h
    split at h
    · split at h
      · rename_i h2
        cases h
        simp [takes_len h2]
      · cases h
    · cases h
inductive Pks (c : Glb) (g : G) : List D → List V → Prop
  | nil : Pks c g [] []
  | cons {x : D} {w : V} {xs : List D} {ws : List V} : Pk c g x w → Pks c g xs ws → Pks c g (x :: xs) (w :: ws)
theorem peeks_ok (ok : GOk c g) : ∀ {vs : List Vl} {ws : List V} {xs : List D}, RepVs c g vs ws → peeks g.S vs = some xs → Pks c g xs ws
  | [], _, _, r, h => by cases h; cases r; exact .nil
  | v :: vs, _, _, r, h => by
    cases r with
    | cons r1 r2 =>
      unfold peeks at h
      split at h
      · rename_i x xs h1 h2
        cases h
        exact .cons (peek_ok ok r1 h1) (peeks_ok ok r2 h2)
      · cases h
end
/-- how many -/
def lenEs : LEs → Nat
  | .nil => 0
  | .cons _ es => lenEs es + 1
theorem evEs_len {U : Env} : ∀ {es : LEs} {l : Loc} {S : Sto} {vs : List Vl} {S' : Sto}, evEs U es l S = .ok vs S' → vs.length = lenEs es
  | .nil, l, S, vs, S', h => by simp only [evEs] at h; cases h; rfl
  | .cons e es, l, S, vs, S', h => by
    simp only [evEs] at h
    cases h1 : evE U e l S with
    | ok v S1 =>
      rw [h1] at h; simp only [R.bind_ok] at h
      cases h2 : evEs U es l S1 with
      | ok ws S2 => rw [h2] at h; cases h; simp [evEs_len h2, lenEs]
      | exc => rw [h2] at h; cases h
      | stuck => rw [h2] at h; cases h
    | exc => rw [h1] at h; cases h
    | stuck => rw [h1] at h; cases h
theorem Out.imp' {α : Type} {c : Glb} {g : G} {W : WX} {σ : L2.St} {r : R α} {k k' : α → G → Prop} (h : Out c g W σ r k) (i : ∀ a g', r = .ok a g'.S → k a g' → k' a g') : Out c g W σ r k' := by
  cases r with
  | ok a S' => intro ρ' H' ok le; exact i _ _ rfl (h ρ' H' ok le)
  | exc n xs S' => exact h
  | stuck => exact h
section
variable {c : Glb} {U : Env} {W : WX} {X : Cx} {e a b d : Expr} {l la lb ld : LE} {pos : Pos} {es : List Expr} {ls : LEs}
theorem sa_nil : PA X [] (tEvs c U W .nil) := PA.imp pa_nil fun σ H Q => by
  rintro ⟨g, loc, rfl, ok, lo, out⟩
  exact (Out.here out ok) [] .nil
theorem sa_cons (hp : plainX e = true) (ha : PE X e (tEv c U W l)) (hs : PA X es (tEvs c U W ls)) : PA X (e :: es) (tEvs c U W (.cons l ls)) := PA.imp (pa_cons ha hs (star_cons hp)) fun σ H Q => by
  rintro ⟨g, loc, rfl, ok, lo, out⟩
  refine ⟨g, loc, rfl, ok, lo, (Out.bind out).imp fun v g1 ⟨le1, ok1, out1⟩ w rw1 => ?_⟩
  refine ⟨g1, loc, rfl, ok1, lo.le ok le1, (Out.bind out1).imp fun vs g2 ⟨le2, ok2, out2⟩ ws rws => ?_⟩
  exact (Out.here out2 ok2) _ (.cons (rw1.le ok1 le2) rws)
theorem small_lim {n : Nat} (h : n ≤ 100000) : n ≤ lim := Nat.le_trans h (by decide)
theorem se_tup {x1 : Nat} (hl : lenEs ls ≤ 100000) (hs : PA X es (tEvs c U W ls)) : PE X (.Tuple es x1 pos) (tEvN c U W (.tup ls)) := PE.imp (pe_tup hs) fun σ H Q => by
  rintro ⟨g, loc, rfl, ok, lo, out⟩
  refine ⟨g, loc, rfl, ok, lo, Out.imp' (Out.bind out) fun vs g1 eq ⟨le1, ok1, out1⟩ ws rws => ?_⟩
  obtain ⟨⟨xs, S2⟩, hp, q⟩ := Out.opt out1
  obtain ⟨ok2, le2, r2⟩ := takes_ok ok1 rws hp
  have len : xs.length ≤ lim := small_lim (by rw [takes_len hp, evEs_len eq]; exact hl)
  obtain ⟨z, e', q'⟩ := Out.here (Out.le q le2) ok2
  cases e'
  exact ⟨by rw [← r2.length, ← lim_eq]; exact len, fun p hp => OutN.tup (g := { g1 with S := S2 }) ok2 q' hp len r2⟩
theorem se_lst (hl : lenEs ls ≤ 100000) (hs : PA X es (tEvs c U W ls)) : PE X (.List es pos) (tEvN c U W (.lst ls)) := PE.imp (pe_lst hs) fun σ H Q => by
  rintro ⟨g, loc, rfl, ok, lo, out⟩
  refine ⟨g, loc, rfl, ok, lo, Out.imp' (Out.bind out) fun vs g1 eq ⟨le1, ok1, out1⟩ ws rws => ?_⟩
  obtain ⟨⟨xs, S2⟩, hp, q⟩ := Out.opt out1
  obtain ⟨ok2, le2, r2⟩ := takes_ok ok1 rws hp
  have len : xs.length ≤ lim := small_lim (by rw [takes_len hp, evEs_len eq]; exact hl)
  obtain ⟨z, e', q'⟩ := Out.here (Out.le q le2) ok2
  cases e'
  exact ⟨by rw [← r2.length, ← lim_eq]; exact len, fun p hp => q' p _ hp len r2⟩
/-! ### an item -/
theorem ixI_eq (n : Nat) (i : Int) : ixI n i = ixN n i := rfl
theorem idx_ok {g : G} {x y z : D} {wx wy : V} {Q : VK} (hx : Pk c g x wx) (hy : Pk c g y wy) (h : idxD x y = some z) (q : ∀ w, Rep c.K (live g) g.H z w → Q w g.H) : rIx c.K wx wy g.H Q := by
  unfold idxD at h
  split at h
  · cases hy
    cases hx with
    | @tup a ds vs hs hl hr =>
      rename_i i
      rw [Option.bind_eq_some_iff] at h
      obtain ⟨j, h1, h2⟩ := h
      obtain ⟨w, h3, h4⟩ := hr.get h2
      refine .inr (.inl ⟨_, _, _, w, rfl, rfl, hs.sq, ?_, q w h4⟩)
      unfold atI
      rw [← hr.length, ← ixI_eq, h1]
      exact h3
  · cases hy
    obtain ⟨a, vs, rfl, hs, hl, hr⟩ := hx
    rw [Option.bind_eq_some_iff] at h
    obtain ⟨j, h1, h2⟩ := h
    obtain ⟨w, h3, h4⟩ := hr.get h2
    refine .inl ⟨_, _, _, w, rfl, rfl, SqL.of hs, ?_, q w h4⟩
    unfold atI
    rw [← hr.length, ← ixI_eq, h1]
    exact h3
  · cases hy
    cases hx with
    | str o =>
      split at h
      · rename_i s i hl
        rw [Option.map_eq_some_iff] at h
        obtain ⟨k, h1, rfl⟩ := h
        rw [Option.bind_eq_some_iff] at h1
        obtain ⟨j, h1, h2⟩ := h1
        refine .inr (.inr ⟨_, _, k, rfl, rfl, by rw [SS_length, ← lim_eq]; exact hl, ?_, q _ (.str fun x hx => ?_)⟩)
        · unfold atI
          have e : (SS s).cps.toList = s := by simp [SS]
          rw [e, ← ixI_eq, h1]
          exact h2
        · have e : x = k := by simpa using hx
          subst e
          exact o _ (List.mem_of_getElem? h2)
      · cases h
  · cases h
def rDx : R2 := fun x y H Q => ∃ a v, x = .ref a ∧ DGet H a y (some v) ∧ Q v H
theorem ix_dic (hu : X.A.units + 200 < cLine) : IxR X rDx := by
  intro value slice pins s σ H x y v u Q I rx ry h hs
  obtain ⟨a, z, rfl, dg, q⟩ := h
  cases rx
  have hu1 : X.A.units + 1 < cLine := by omega
  exact tail_any (dict_typeIs I dg) PySem.F.slot_dict_getitem.lookup (d_getItem hu1 I dg ry fun w1 s1 I1 rw1 => ⟨z, H, I1, rw1, q⟩) hs
theorem idxV_ok {g : G} {v u : Vl} {z : D} {wx wy : V} {Q : VK} (ok : GOk c g) (hx : RepV c g v wx) (hy : RepV c g u wy) (h : idxV v u g.S = some z) (q : ∀ w, Rep c.K (live g) g.H z w → Q w g.H) : rIx c.K wx wy g.H Q ∨ rDx wx wy g.H Q := by
  unfold idxV at h
  split at h
  · rename_i kvs hd
    obtain ⟨n, a, vs, rfl, rfl, e1, e2, e3, e4, e5⟩ := dicOf_ok ok hx hd
    rw [Option.bind_eq_some_iff] at h
    obtain ⟨k, hk, hz⟩ := h
    obtain ⟨rfl, o2⟩ := ky_peek ok hy hk
    rcases e5.val k with ⟨q1, q2⟩ | ⟨x, w, q1, q2, q3⟩
    · rw [q1] at hz; cases hz
    · rw [q1] at hz
      cases hz
      have dg : DGet g.H a (kV (toK k)) (valV vs (toK k)) := .inl ⟨vs, toK k, e3, rfl, rfl⟩
      rw [q2] at dg
      exact .inr ⟨a, w, rfl, dg, q w q3⟩
  · split at h
    · rename_i kvs hd
      obtain ⟨n, a, vs, rfl, rfl, e1, e2, e3, e4, e5⟩ := ditOf_ok ok hx hd
      rw [Option.bind_eq_some_iff] at h
      obtain ⟨k, hk, hz⟩ := h
      obtain ⟨b, rfl, hb⟩ := kt_peek ok hy hk
      rcases e5.val k with ⟨q1, q2⟩ | ⟨x, w, q1, q2, q3⟩
      · rw [q1] at hz; cases hz
      · rw [q1] at hz
        cases hz
        have dg := DGet.t e3 hb
        rw [q2] at dg
        exact .inr ⟨a, w, rfl, dg, q w q3⟩
    · split at h
      · rename_i x y h1 h2
        exact .inl (idx_ok (peek_ok ok hx h1) (peek_ok ok hy h2) h q)
      · cases h
theorem se_idx (hK : X.K = c.K) (hu : X.A.units + 200 < cLine) (hp : plainX b = true) (ha : PE X a (tEv c U W la)) (hb : PE X b (tEv c U W lb)) : PE X (.Subscript a b pos) (tEv c U W (.idx la lb)) := PE.imp (pe_ix (ix_seq.or (ix_dic hu)) ha hb (plainIx_ok hp)) fun σ H Q => by
  rintro ⟨g, loc, rfl, ok, lo, out⟩
  refine ⟨g, loc, rfl, ok, lo, (Out.bind out).imp fun v g1 ⟨le1, ok1, out1⟩ w rw1 => ?_⟩
  refine ⟨g1, loc, rfl, ok1, lo.le ok le1, (Out.bind out1).imp fun v2 g2 ⟨le2, ok2, out2⟩ w2 rw2 => ?_⟩
  obtain ⟨z, hz, q⟩ := Out.opt out2
  rw [hK]
  exact idxV_ok ok2 (rw1.le ok1 le2) rw2 hz fun w r => (Out.here q ok2) w (.d r)
/-! ### a call of a def of the text -/
/-- a def's promise: the evaluator's answer -/
def spF (c : Glb) (U : Env) (f np : Nat) : Sp := fun vs H Q E => ∃ (g : G) (ds : List Vl), g.H = H ∧ GOk c g ∧ RepVs c g ds vs ∧ ds.length = np ∧ Out c g (fun cls d _ H' => E cls d H') [] (U.cf f ds g.S) (fun v g' => ∀ w, RepV c g' v w → Q w g'.H)
theorem se_call {f np k : Nat} {fa : Addr} {fd : FuncData} {ps : List Str} {x : String} {p : Pos} (F : FnG X.prog X.w X.K X.mg X.base (L2.CX X.prog X.w) k fa fd ps (spF c U f np)) (hr : RoomG k X.A) (hg : Gl X x) (hm : X.mg x = some (.ref fa)) (hk : PySem.W.keepIn X.K (.ref fa) = true) (hb : Binds X.K fd ps [])
    (tk : Takes X W) (hes : (e :: es).all plainX = true) (hn : lenEs ls = np) (ha : PA X (e :: es) (tEvs c U W ls)) (hdb : ((x : Str) == ("__debug__" : Str)) = false) : PE X (.Call (.Name x p) (e :: es) [] pos) (tEv c U W (.call f x ls)) := by
  rw [List.all_cons, Bool.and_eq_true] at hes
  refine PE.imp (pe_callG (E := WE W) F hr hg hm hk hb (fun σ => passAt tk σ) ha hdb (star_cons hes.1) (star_any hes.2 _)) fun σ H Q => ?_
  rintro ⟨g, loc, rfl, ok, lo, out⟩
  refine ⟨g, loc, rfl, ok, lo, Out.imp' (Out.bind out) fun vs g1 eq ⟨le1, ok1, out1⟩ ws rws => ?_⟩
  refine ⟨g1, vs, rfl, ok1, rws, by rw [evEs_len eq, hn], ?_⟩
  exact out1
/-- a call of what a name holds -/
theorem pe_callD {i : Nat} {x : Str} {p : Pos} {t : TA} {AV : Nat → Addr → Prop} {sp : Nat → Sp} (tk : Takes X W)
    (A : ∀ f a, AV f a → ∃ (k : Nat) (fd : FuncData) (ps : List Str), FnG X.prog X.w X.K X.mg X.base (L2.CX X.prog X.w) k a fd ps (sp f) ∧ RoomG k X.A ∧ PySem.W.keepIn X.K (.ref a) = true ∧ Binds X.K fd ps [])
    (hN : X.N[i]? = some x) (hv : Vis X.env.scope x) (hes : (e :: es).all plainX = true) (ha : PA X (e :: es) t) (hdb : (x == ("__debug__" : Str)) = false) (hcd : (x == ("__classdict__" : Str)) = false) :
    PE X (.Call (.Name x p) (e :: es) [] pos) (fun σ H Q => ∃ f a, σ[i]? = some (some (.ref a)) ∧ AV f a ∧ t σ H fun vs H1 => sp f vs H1 Q (WE W σ)) := by
  rw [List.all_cons, Bool.and_eq_true] at hes
  refine ⟨fun pins s σ H Q I h => ?_⟩
  obtain ⟨f, a, hs, av, ht⟩ := h
  obtain ⟨k, fd, ps, F, hr, hk, hb⟩ := A f a av
  refine wpAny_Call_Name_kw (thn ((pe_var (pos := p) hN hv hdb hcd).run pins s σ H (fun v H1 => v = .ref a ∧ H1 = H) I ⟨.ref a, hs, rfl, rfl⟩) fun u s1 ⟨v, H1, I1, r1, q1⟩ => ?_)
  obtain ⟨rfl, rfl⟩ := q1
  cases r1
  refine PySem.W.callWith_K (h₀ := X.base) I.ok.mod.kin hk (thn (ha.run pos pins s1 σ _ _ I1 ht) fun us s2 ⟨vs, H2, I2, r, q⟩ => ⟨I2.kIn, ?_⟩) (star_cons hes.1) (star_any hes.2 _)
  exact run_fnG F hr hb (passAt tk σ) I2 r q
end
end EV
end

section
set_option Elab.async false
set_option linter.all false
set_option maxRecDepth 100000
set_option maxHeartbeats 1000000
/-! EVM: min, max, sorted of data of one kind -/
namespace EV
open PySem PySem.Spec PyProof.Rows L2
mutual
theorem toPy_inj : ∀ {x y : D}, toPy x = toPy y → x = y
  | .non, y, h => by cases y <;> first | rfl | (simp [toPy] at h)
  | .bl a, y, h => by cases y <;> simp [toPy] at h; rw [h]
  | .int a, y, h => by cases y <;> simp [toPy] at h; rw [h]
  | .str a, y, h => by
    cases y <;> simp only [toPy, PyData.str.injEq, reduceCtorEq] at h
    rw [SS_inj h]
  | .tup xs, y, h => by
    cases y <;> simp only [toPy, PyData.tuple.injEq, reduceCtorEq] at h
    rw [toPys_inj h]
  | .lst xs, y, h => by
    cases y <;> simp only [toPy, PyData.list.injEq, reduceCtorEq] at h
    rw [toPys_inj h]
theorem toPys_inj : ∀ {xs ys : List D}, toPys xs = toPys ys → xs = ys
  | [], ys, h => by cases ys <;> first | rfl | (simp [toPys] at h)
  | x :: xs, ys, h => by
    cases ys with
    | nil => simp [toPys] at h
    | cons y ys =>
      simp only [toPys, List.cons.injEq] at h
      rw [toPy_inj h.1, toPys_inj h.2]
end
mutual
theorem like_alike : ∀ {x y : D}, likeD x y = true → PySem.W.alike (toPy x) (toPy y) = true
  | .non, y, h => by cases y <;> simp [likeD] at h
  | .bl a, y, h => by cases y <;> simp [likeD] at h
  | .int a, y, h => by cases y <;> simp [likeD] at h; simp [toPy, PySem.W.alike]
  | .str a, y, h => by cases y <;> simp [likeD] at h; simp [toPy, PySem.W.alike]
  | .tup xs, y, h => by
    cases y <;> simp only [likeD, Bool.false_eq_true] at h
    simp only [toPy, PySem.W.alike]
    exact likes_alike h
  | .lst xs, y, h => by
    cases y <;> simp only [likeD, Bool.false_eq_true] at h
    simp only [toPy, PySem.W.alike]
    exact likes_alike h
theorem likes_alike : ∀ {xs ys : List D}, likeDs xs ys = true → PySem.W.alikeAll (toPys xs) (toPys ys) = true
  | [], ys, h => by cases ys <;> simp [toPys, PySem.W.alikeAll]
  | x :: xs, [], h => by simp [toPys, PySem.W.alikeAll]
  | x :: xs, y :: ys, h => by
    simp only [likeDs, Bool.and_eq_true] at h
    simp only [toPys, PySem.W.alikeAll, Bool.and_eq_true]
    exact ⟨like_alike h.1, likes_alike h.2⟩
end
theorem like_non {x y : D} (h : likeD x y = true) : toPy x ≠ .none := by
  cases x <;> first | (simp [toPy]; done) | (cases y <;> simp [likeD] at h)
mutual
theorem lt_like : ∀ {x y : D}, likeD x y = true → ltD x y = some (PySem.W.dataLt (toPy x) (toPy y))
  | .non, y, h => by cases y <;> simp [likeD] at h
  | .bl a, y, h => by cases y <;> simp [likeD] at h
  | .int a, y, h => by cases y <;> simp [likeD] at h; simp [toPy, ltD, PySem.W.dataLt_int]
  | .str a, y, h => by
    cases y <;> simp [likeD] at h
    simp [toPy, ltD, PySem.W.dataLt_str, ltS, SS]
  | .tup xs, y, h => by
    cases y <;> simp only [likeD, Bool.false_eq_true] at h
    simp only [toPy, ltD, PySem.W.dataLt_tuple]
    exact lts_like h
  | .lst xs, y, h => by
    cases y <;> simp only [likeD, Bool.false_eq_true] at h
    simp only [toPy, ltD, PySem.W.dataLt_list]
    exact lts_like h
theorem lts_like : ∀ {xs ys : List D}, likeDs xs ys = true → ltDs xs ys = some (PyProof.Rows.lexLt itemOrd (PySem.W.keyToksAll (toPys xs)) (PySem.W.keyToksAll (toPys ys)))
  | [], [], h => by simp only [ltDs, toPys]; rw [PyProof.Rows.lex_irrefl]
  | [], y :: ys, h => by
    simp only [ltDs, toPys, PySem.W.toks_all_cons]
    simp only [PySem.W.keyToksAll]
    rw [PyProof.Rows.lex_diff (O := itemOrd) (by simp)]
    rfl
  | x :: xs, [], h => by
    simp only [ltDs, toPys, PySem.W.toks_all_cons]
    simp only [PySem.W.keyToksAll]
    rw [PyProof.Rows.lex_diff (O := itemOrd) (by simp)]
    rfl
  | x :: xs, y :: ys, h => by
    simp only [likeDs, Bool.and_eq_true] at h
    simp only [ltDs, toPys]
    have e := eqv_toPy x y
    cases hx : eqD x y with
    | true =>
      rw [hx] at e
      rw [if_pos rfl, PySem.W.dataLt_all_yes (like_alike h.1) e]
      exact lts_like h.2
    | false =>
      rw [hx] at e
      rw [if_neg (by simp), PySem.W.dataLt_all_no (like_alike h.1) e]
      exact lt_like h.1
end
theorem alikes_iff {ds : List D} (h : alikes ds = true) : ∀ x ∈ ds, ∀ y ∈ ds, likeD x y = true := by
  unfold alikes at h
  simp only [List.all_eq_true] at h
  exact h
theorem least_fold : ∀ {ds : List D} {m z : D}, (∀ x ∈ m :: ds, ∀ y ∈ m :: ds, likeD x y = true) → leastD m ds = some z → z ∈ m :: ds ∧ toPy z = PySem.W.minD (toPy m) (toPys ds)
  | [], m, z, h, e => by cases e; exact ⟨by simp, rfl⟩
  | d :: ds, m, z, h, e => by
    have q := lt_like (h d (by simp) m (by simp))
    simp only [leastD, q] at e
    have st : PySem.W.minD (toPy m) (toPys (d :: ds)) = PySem.W.minD (if PySem.W.dataLt (toPy d) (toPy m) = true then toPy d else toPy m) (toPys ds) := rfl
    rw [st]
    cases hb : PySem.W.dataLt (toPy d) (toPy m) with
    | true =>
      rw [hb] at e
      obtain ⟨h1, h2⟩ := least_fold (m := d) (fun x hx y hy => h x (List.mem_cons_of_mem _ hx) y (List.mem_cons_of_mem _ hy)) e
      exact ⟨List.mem_cons_of_mem _ h1, by rw [if_pos rfl]; exact h2⟩
    | false =>
      rw [hb] at e
      have sub : ∀ x ∈ m :: ds, x ∈ m :: d :: ds := fun x hx => by
        rcases List.mem_cons.mp hx with z | z
        · rw [z]; exact List.mem_cons_self
        · exact List.mem_cons_of_mem _ (List.mem_cons_of_mem _ z)
      obtain ⟨h1, h2⟩ := least_fold (m := m) (fun x hx y hy => h x (sub x hx) y (sub y hy)) e
      exact ⟨sub _ h1, by rw [if_neg (by simp)]; exact h2⟩
theorem most_fold : ∀ {ds : List D} {m z : D}, (∀ x ∈ m :: ds, ∀ y ∈ m :: ds, likeD x y = true) → mostD m ds = some z → z ∈ m :: ds ∧ toPy z = PySem.W.maxD (toPy m) (toPys ds)
  | [], m, z, h, e => by cases e; exact ⟨by simp, rfl⟩
  | d :: ds, m, z, h, e => by
    have q := lt_like (h m (by simp) d (by simp))
    simp only [mostD, q] at e
    have st : PySem.W.maxD (toPy m) (toPys (d :: ds)) = PySem.W.maxD (if PySem.W.dataLt (toPy m) (toPy d) = true then toPy d else toPy m) (toPys ds) := rfl
    rw [st]
    cases hb : PySem.W.dataLt (toPy m) (toPy d) with
    | true =>
      rw [hb] at e
      obtain ⟨h1, h2⟩ := most_fold (m := d) (fun x hx y hy => h x (List.mem_cons_of_mem _ hx) y (List.mem_cons_of_mem _ hy)) e
      exact ⟨List.mem_cons_of_mem _ h1, by rw [if_pos rfl]; exact h2⟩
    | false =>
      rw [hb] at e
      have sub : ∀ x ∈ m :: ds, x ∈ m :: d :: ds := fun x hx => by
        rcases List.mem_cons.mp hx with z | z
        · rw [z]; exact List.mem_cons_self
        · exact List.mem_cons_of_mem _ (List.mem_cons_of_mem _ z)
      obtain ⟨h1, h2⟩ := most_fold (m := m) (fun x hx y hy => h x (sub x hx) y (sub y hy)) e
      exact ⟨sub _ h1, by rw [if_neg (by simp)]; exact h2⟩
/-! ### the calls -/
def rLeastD (f : D → List D → Option D) (K : PySem.W.Frag) : List V → Hp → VK → Prop := fun xs H Q => ∃ (a : Addr) (vs : List V) (m : D) (ds : List D) (z : D), xs = [.ref a] ∧ SqL K H a vs ∧ DpAll K H vs (toPys (m :: ds)) ∧ alikes (m :: ds) = true ∧ deps (m :: ds) ≤ 60 ∧ f m ds = some z ∧
  ∀ (i : Nat) (v : V), vs[i]? = some v → (m :: ds)[i]? = some z → Q v H
section
variable {X : Cx}
theorem least_item {h : PySem.Heap} {its : List Value} {m z : D} {ds : List D} {as bs : List Addr} {i : Nat} {u : Value} {p : PyData} (ha : alikes (m :: ds) = true) (hr : ReadsAll h its (toPys (m :: ds)) as) (hz : z ∈ m :: ds) (e : toPy z = p) (hi : its[i]? = some u) (r : Reads h u p bs) : (m :: ds)[i]? = some z := by
  obtain ⟨cs, r2, hl, _, _⟩ := PySem.W.readsAll_at hr i u hi
  have hl' : i < (m :: ds).length := by rw [toPys_map, List.length_map] at hl; exact hl
  have e1 : (toPys (m :: ds)).getD i .none = toPy (m :: ds)[i] := by
    rw [toPys_map, List.getD_eq_getElem?_getD, List.getElem?_map, List.getElem?_eq_getElem hl']
    rfl
  rw [e1] at r2
  subst e
  have hm : (m :: ds)[i] ∈ m :: ds := List.getElem_mem hl'
  have := PySem.W.alike_unique _ _ _ _ _ (like_alike (alikes_iff ha _ hm _ hz)) r2 r
  rw [List.getElem?_eq_getElem hl', toPy_inj this]
theorem cr_leastD (hc : X.calm = true) (hu : X.A.units + 200 < cLine) : CallR X (.builtin "min") (rLeastD leastD X.K) := by
  intro pins s σ H xs us Q I rs q
  obtain ⟨a, vs, m, ds, z, rfl, hs, hd, ha, hp, hz, q⟩ := q
  obtain ⟨its, rv, hl, hlen⟩ := I.list hs
  obtain rfl := Vals.ref1 rs
  obtain ⟨as, hr⟩ := Dp.readsAll I _ _ _ hd rv
  obtain ⟨z1, z2⟩ := least_fold (alikes_iff ha) hz
  have hA : PySem.W.AlikeAll (toPys (m :: ds)) := by
    rw [toPys_map]
    refine ⟨fun x hx y hy => ?_, fun x hx => ?_⟩
    · obtain ⟨x', hx', rfl⟩ := List.mem_map.mp hx
      obtain ⟨y', hy', rfl⟩ := List.mem_map.mp hy
      exact like_alike (alikes_iff ha _ hx' _ hy')
    · obtain ⟨x', hx', rfl⟩ := List.mem_map.mp hx
      exact like_non (alikes_iff ha _ hx' _ hx')
  have hdep : PyData.depthAll (toPys (m :: ds)) ≤ 60 := by rw [depth_toPys]; exact hp
  refine PySem.W.min_list_data (x := toPy m) (xs := toPys ds) (as := as) (I.ok.hd hc) hl.isList hr hA (by show _ + 1 + PyData.depthAll (toPys (m :: ds)) < _; omega) fun i u h' tk bs hi r hk => ?_
  have hi' : its[i]? = some u := by simpa using hi
  obtain ⟨v, hv, rvu⟩ : ∃ v, vs[i]? = some v ∧ RelV v u := by
    have hlt := (List.getElem?_eq_some_iff.mp hi').1
    have hlt2 : i < vs.length := by rw [rv.length]; exact hlt
    obtain ⟨u', k1, k2⟩ := Vals.get rv (List.getElem?_eq_getElem hlt2)
    rw [hi'] at k1
    cases k1
    exact ⟨vs[i], List.getElem?_eq_getElem hlt2, k2⟩
  obtain ⟨cs, r2, hl2, _, _⟩ := PySem.W.readsAll_at hr i u hi'
  have r3 := PySem.W.reads_keeps hk r2
  have hl' : i < (m :: ds).length := by rw [toPys_map, List.length_map] at hl2; exact hl2
  have e1 : (toPys (m :: ds)).getD i .none = toPy (m :: ds)[i] := by
    rw [toPys_map, List.getD_eq_getElem?_getD, List.getElem?_map, List.getElem?_eq_getElem hl']
    rfl
  rw [e1] at r3
  rw [← z2] at r
  have hm : (m :: ds)[i] ∈ m :: ds := List.getElem_mem hl'
  have e2 := toPy_inj (PySem.W.alike_unique _ _ _ _ _ (like_alike (alikes_iff ha _ hm _ z1)) r3 r)
  exact ⟨v, H, I.kept (t' := tk) hk, rvu, q i v hv (by rw [List.getElem?_eq_getElem hl', e2])⟩
theorem cr_mostD (hc : X.calm = true) (hu : X.A.units + 200 < cLine) : CallR X (.builtin "max") (rLeastD mostD X.K) := by
  intro pins s σ H xs us Q I rs q
  obtain ⟨a, vs, m, ds, z, rfl, hs, hd, ha, hp, hz, q⟩ := q
  obtain ⟨its, rv, hl, hlen⟩ := I.list hs
  obtain rfl := Vals.ref1 rs
  obtain ⟨as, hr⟩ := Dp.readsAll I _ _ _ hd rv
  obtain ⟨z1, z2⟩ := most_fold (alikes_iff ha) hz
  have hA : PySem.W.AlikeAll (toPys (m :: ds)) := by
    rw [toPys_map]
    refine ⟨fun x hx y hy => ?_, fun x hx => ?_⟩
    · obtain ⟨x', hx', rfl⟩ := List.mem_map.mp hx
      obtain ⟨y', hy', rfl⟩ := List.mem_map.mp hy
      exact like_alike (alikes_iff ha _ hx' _ hy')
    · obtain ⟨x', hx', rfl⟩ := List.mem_map.mp hx
      exact like_non (alikes_iff ha _ hx' _ hx')
  have hdep : PyData.depthAll (toPys (m :: ds)) ≤ 60 := by rw [depth_toPys]; exact hp
  refine PySem.W.max_list_data (x := toPy m) (xs := toPys ds) (as := as) (I.ok.hd hc) hl.isList hr hA (by show _ + 1 + PyData.depthAll (toPys (m :: ds)) < _; omega) fun i u h' tk bs hi r hk => ?_
  have hi' : its[i]? = some u := by simpa using hi
  obtain ⟨v, hv, rvu⟩ : ∃ v, vs[i]? = some v ∧ RelV v u := by
    have hlt := (List.getElem?_eq_some_iff.mp hi').1
    have hlt2 : i < vs.length := by rw [rv.length]; exact hlt
    obtain ⟨u', k1, k2⟩ := Vals.get rv (List.getElem?_eq_getElem hlt2)
    rw [hi'] at k1
    cases k1
    exact ⟨vs[i], List.getElem?_eq_getElem hlt2, k2⟩
  obtain ⟨cs, r2, hl2, _, _⟩ := PySem.W.readsAll_at hr i u hi'
  have r3 := PySem.W.reads_keeps hk r2
  have hl' : i < (m :: ds).length := by rw [toPys_map, List.length_map] at hl2; exact hl2
  have e1 : (toPys (m :: ds)).getD i .none = toPy (m :: ds)[i] := by
    rw [toPys_map, List.getD_eq_getElem?_getD, List.getElem?_map, List.getElem?_eq_getElem hl']
    rfl
  rw [e1] at r3
  rw [← z2] at r
  have hm : (m :: ds)[i] ∈ m :: ds := List.getElem_mem hl'
  have e2 := toPy_inj (PySem.W.alike_unique _ _ _ _ _ (like_alike (alikes_iff ha _ hm _ z1)) r3 r)
  exact ⟨v, H, I.kept (t' := tk) hk, rvu, q i v hv (by rw [List.getElem?_eq_getElem hl', e2])⟩
end
/-! ### sorted -/
mutual
theorem like_eq : ∀ {x y : D}, likeD x y = true → eqD x y = true → x = y
  | .non, y, h, e => by cases y <;> simp [likeD] at h
  | .bl a, y, h, e => by cases y <;> simp [likeD] at h
  | .int a, y, h, e => by cases y <;> simp [likeD] at h; simp [eqD] at e; rw [e]
  | .str a, y, h, e => by cases y <;> simp [likeD] at h; simp [eqD] at e; rw [e]
  | .tup xs, y, h, e => by
    cases y <;> simp only [likeD, Bool.false_eq_true] at h
    simp only [eqD] at e
    rw [likes_eq h e]
  | .lst xs, y, h, e => by
    cases y <;> simp only [likeD, Bool.false_eq_true] at h
    simp only [eqD] at e
    rw [likes_eq h e]
theorem likes_eq : ∀ {xs ys : List D}, likeDs xs ys = true → eqDs xs ys = true → xs = ys
  | [], ys, h, e => by cases ys <;> simp [eqDs] at e; rfl
  | x :: xs, [], h, e => by simp [eqDs] at e
  | x :: xs, y :: ys, h, e => by
    simp only [likeDs, Bool.and_eq_true] at h
    simp only [eqDs, Bool.and_eq_true] at e
    rw [like_eq h.1 e.1, likes_eq h.2 e.2]
end
/-- neither is less: the same -/
theorem like_same {x y : D} (h : likeD x y = true) (h1 : PySem.W.dataLt (toPy x) (toPy y) = false) (h2 : PySem.W.dataLt (toPy y) (toPy x) = false) : x = y := by
  have e := PyProof.Rows.lex_total (O := itemOrd) _ _ h1 h2
  refine like_eq h ?_
  rw [← eqv_toPy]
  cases hq : PyData.eqv (toPy x) (toPy y) with
  | true => rfl
  | false =>
    exfalso
    have q := (PySem.W.toks_eqv _ _ (like_alike h)).2 hq [] [.inl 0]
    rw [e, PySem.W.lex_pre, PyProof.Rows.lex_irrefl] at q
    simp [PyProof.Rows.lexLt] at q
abbrev leP (x y : D) : Prop := PySem.W.dataLt (toPy y) (toPy x) = false
theorem leP_trans {x y z : D} (h1 : leP x y) (h2 : leP y z) : leP x z := by
  cases hq : PySem.W.dataLt (toPy z) (toPy x) with
  | false => exact hq
  | true =>
    rcases PyProof.Rows.lex_negTrans (O := itemOrd) _ (PySem.W.keyToks (toPy y)) _ hq with k | k
    · exact absurd (h2.symm.trans k) (by simp)
    · exact absurd (h1.symm.trans k) (by simp)
theorem insF_ok {x : D} : ∀ {ys zs : List D}, (∀ y ∈ ys, likeD y x = true) → ys.Pairwise leP → sortD.insFront x ys = some zs → zs.Perm (x :: ys) ∧ zs.Pairwise leP
  | [], zs, _, _, e => by
    simp only [sortD.insFront, Option.some.injEq] at e
    subst e
    exact ⟨.refl _, List.pairwise_singleton _ _⟩
  | y :: ys, zs, h, hp, e => by
    have q := lt_like (h y List.mem_cons_self)
    simp only [sortD.insFront, q] at e
    obtain ⟨p1, p2⟩ := List.pairwise_cons.mp hp
    cases hb : PySem.W.dataLt (toPy y) (toPy x) with
    | true =>
      rw [hb] at e
      cases hi : sortD.insFront x ys with
      | none => rw [hi] at e; cases e
      | some ws =>
        rw [hi] at e
        cases e
        obtain ⟨k1, k2⟩ := insF_ok (fun z hz => h z (List.mem_cons_of_mem _ hz)) p2 hi
        refine ⟨(k1.cons y).trans (List.Perm.swap x y ys), List.pairwise_cons.mpr ⟨fun z hz => ?_, k2⟩⟩
        rcases List.mem_cons.mp (k1.mem_iff.mp hz) with rfl | hz
        · cases hq : PySem.W.dataLt (toPy z) (toPy y) with
          | false => exact hq
          | true =>
            have := PyProof.Rows.lex_trans (O := itemOrd) _ _ _ hb hq
            rw [PyProof.Rows.lex_irrefl] at this
            cases this
        · exact p1 z hz
    | false =>
      rw [hb] at e
      cases e
      refine ⟨.refl _, List.pairwise_cons.mpr ⟨fun z hz => ?_, hp⟩⟩
      rcases List.mem_cons.mp hz with rfl | hz
      · exact hb
      · exact leP_trans hb (p1 z hz)
theorem sortD_ok : ∀ {ds es : List D}, (∀ x ∈ ds, ∀ y ∈ ds, likeD x y = true) → sortD ds = some es → es.Perm ds ∧ es.Pairwise leP
  | [], es, _, e => by simp only [sortD, Option.some.injEq] at e; subst e; exact ⟨.refl _, .nil⟩
  | x :: xs, es, h, e => by
    simp only [sortD] at e
    cases hs : sortD xs with
    | none => rw [hs] at e; cases e
    | some ys =>
      rw [hs] at e
      obtain ⟨k1, k2⟩ := sortD_ok (fun a ha b hb => h a (List.mem_cons_of_mem _ ha) b (List.mem_cons_of_mem _ hb)) hs
      obtain ⟨l1, l2⟩ := insF_ok (fun y hy => h y (List.mem_cons_of_mem _ (k1.mem_iff.mp hy)) x List.mem_cons_self) k2 e
      exact ⟨l1.trans (k1.cons x), l2⟩
def srtP (ds : List D) : Prop := (∀ d ∈ ds, ∃ x r, d = .tup (x :: r)) ∨ ∀ d ∈ ds, ∀ xs, d ≠ .tup xs
theorem srtB_ok {ds : List D} (h : srtB ds = true) : srtP ds := by
  unfold srtB at h
  rw [Bool.or_eq_true] at h
  simp only [List.all_eq_true] at h
  rcases h with h | h
  · refine .inl fun d hd => ?_
    have q := h d hd
    split at q
    · exact ⟨_, _, rfl⟩
    · cases q
  · refine .inr fun d hd xs e => ?_
    have q := h d hd
    subst e
    cases q
def rSortD (K : PySem.W.Frag) : List V → Hp → VK → Prop := fun xs H Q => ∃ (a : Addr) (vs : List V) (ds es : List D), xs = [.ref a] ∧ SqL K H a vs ∧ DpAll K H vs (toPys ds) ∧ alikes ds = true ∧ deps ds ≤ 60 ∧ srtB ds = true ∧ sortD ds = some es ∧
  ∀ (p : Addr) (ws : List V) (T : List (D × V)), H p = none → T.Perm (ds.zip vs) → es = T.map Prod.fst → ws = T.map Prod.snd → Q (.ref p) (upd H p (.lst ws))
theorem dpAll_len {K : PySem.W.Frag} {H : Hp} : ∀ {vs : List V} {ds : List PyData}, DpAll K H vs ds → vs.length = ds.length
  | _, _, .nil => rfl
  | _, _, .cons _ t => by simp [dpAll_len t]
theorem vals_zip : ∀ {vs : List V} {us : List Value}, Vals vs us → ∀ p ∈ vs.zip us, RelV p.1 p.2
  | _, _, .nil, p, h => by simp at h
  | _, _, .cons r t, p, h => by
    rcases List.mem_cons.mp (by simpa using h) with rfl | h
    · exact r
    · exact vals_zip t p h
theorem vals_map : ∀ {α : Type} {T : List α} {f : α → V} {g : α → Value}, (∀ t ∈ T, RelV (f t) (g t)) → Vals (T.map f) (T.map g)
  | _, [], _, _, _ => .nil
  | _, t :: T, _, _, h => .cons (h t List.mem_cons_self) (vals_map fun u hu => h u (List.mem_cons_of_mem _ hu))
theorem reads_zip {h : PySem.Heap} : ∀ {us : List Value} {ps : List PyData} {as : List Addr}, ReadsAll h us ps as → ∀ p ∈ ps.zip us, ∃ bs, Reads h p.2 p.1 bs
  | _, _, _, .nil, p, m => by simp at m
  | _, _, _, .cons r t, p, m => by
    rcases List.mem_cons.mp (by simpa using m) with rfl | m
    · exact ⟨_, r⟩
    · exact reads_zip t p m
theorem dep_mem : ∀ {ds : List D} {x : D}, x ∈ ds → dep x ≤ deps ds
  | d :: ds, x, h => by
    simp only [deps]
    rcases List.mem_cons.mp h with rfl | h
    · exact Nat.le_max_left _ _
    · exact Nat.le_trans (dep_mem h) (Nat.le_max_right _ _)
theorem cr_sortD {X : Cx} (hu : X.A.units + 200 < cLine) : CallR X (.builtin "sorted") (rSortD X.K) := by
  intro pins s σ H xs us Q I rs q
  obtain ⟨a, vs, ds, es, rfl, hs, hd, ha, hp, hb, he, q⟩ := q
  obtain ⟨its, rv, hl, hlen⟩ := I.list hs
  obtain rfl := Vals.ref1 rs
  obtain ⟨as, hr⟩ := Dp.readsAll I _ _ _ hd rv
  have l1 : vs.length = its.length := rv.length
  have l2 : vs.length = ds.length := by rw [dpAll_len hd, toPys_map, List.length_map]
  have hk : ∀ b o, s.heap.get? b = some o → (PySem.W.sortingHeap (PySem.W.copyHeap s.heap its) (s.heap.objs.size + 1) its).get? b = some o := fun b o e => PySem.W.sorting_copy_old e
  have hr2 : ReadsAll (PySem.W.sortingHeap (PySem.W.copyHeap s.heap its) (s.heap.objs.size + 1) its) its ((toPys ds).map id) as := by
    rw [List.map_id]
    exact ReadsAll.keeps hk hr
  have al : ∀ d ∈ toPys ds, ∃ x ∈ ds, d = toPy x := fun d h => by
    rw [toPys_map] at h
    obtain ⟨x, hx, e⟩ := List.mem_map.mp h
    exact ⟨x, hx, e.symm⟩
  have hal : PySem.W.AllAlike (toPys ds) := fun d h d' h' => by
    obtain ⟨x, hx, rfl⟩ := al d h
    obtain ⟨y, hy, rfl⟩ := al d' h'
    exact like_alike (alikes_iff ha x hx y hy)
  have S := PySem.W.SortsAt.data (prog := X.prog) (w := X.w) (A := X.A.in1.in1) (s := { s with heap := PySem.W.sortingHeap (PySem.W.copyHeap s.heap its) (s.heap.objs.size + 1) its }) (PySem.W.readsAll_each id hr2) hal (by
    rcases srtB_ok hb with h | h
    · refine .inl fun d hd => ?_
      obtain ⟨x, hx, rfl⟩ := al d hd
      obtain ⟨y, r, rfl⟩ := h x hx
      exact ⟨toPy y, toPys r, rfl⟩
    · refine .inr fun d hd => ?_
      obtain ⟨x, hx, rfl⟩ := al d hd
      refine ⟨like_non (alikes_iff ha x hx x hx), fun ys e => ?_⟩
      cases x with
      | tup zs => exact h _ hx zs rfl
      | _ => simp [toPy] at e) (fun d hd => by
    obtain ⟨x, hx, rfl⟩ := al d hd
    have h1 : dep x ≤ deps ds := dep_mem hx
    rw [depth_toPy]
    show X.A.units + 1 + 1 + dep x < _
    omega)
  refine PySem.W.sorted_vals hl.isList S (by rw [← l1]; exact hlen) ?_
  -- the rows of data, values, objects
  let T0 : List ((D × V) × Value) := (ds.zip vs).zip its
  let κ := PySem.W.dataKind (PySem.W.sortingHeap (PySem.W.copyHeap s.heap its) (s.heap.objs.size + 1) its) (toPys ds)
  let k2 : Value × Value → κ.toKeyOrd.α := fun p => PySem.W.keyD κ p.1
  let r0 : ((D × V) × Value) → ((D × V) × Value) → Bool := fun t u => PySem.W.sortLe κ.toKeyOrd false k2 (t.2, t.2) (u.2, u.2)
  have zz : ∀ l : List Value, l.map (fun u => (u, u)) = l.zip l := fun l => by
    induction l with
    | nil => rfl
    | cons x l ih => rw [List.map_cons, List.zip_cons_cons, ih]
  have m0 : T0.map (fun t => ((t.2, t.2) : Value × Value)) = its.zip its := by
    have e1 : (fun t : (D × V) × Value => ((t.2, t.2) : Value × Value)) = (fun u => (u, u)) ∘ Prod.snd := rfl
    rw [e1, ← List.map_map, List.map_snd_zip (by rw [List.length_zip]; omega), zz]
  have m1 : (T0.mergeSort r0).map (fun t => ((t.2, t.2) : Value × Value)) = (its.zip its).mergeSort (PySem.W.sortLe κ.toKeyOrd false k2) := by
    rw [← m0]
    exact PySem.W.sort_maps _ fun a _ b _ => rfl
  have out : PySem.W.sortVals κ false its its = (T0.mergeSort r0).map Prod.snd := by
    show ((its.zip its).mergeSort (PySem.W.sortLe κ.toKeyOrd false k2)).map Prod.snd = _
    rw [← m1, List.map_map]
    rfl
  have pm : (T0.mergeSort r0).Perm T0 := List.mergeSort_perm _ _
  have rel : ∀ t ∈ T0, RelV t.1.2 t.2 ∧ t.1.1 ∈ ds ∧ ∃ bs, Reads (PySem.W.sortingHeap (PySem.W.copyHeap s.heap its) (s.heap.objs.size + 1) its) t.2 (toPy t.1.1) bs := fun t ht => by
    obtain ⟨i, hi⟩ := List.getElem?_of_mem ht
    obtain ⟨h1, h2⟩ := List.getElem?_zip_eq_some.mp hi
    obtain ⟨h3, h4⟩ := List.getElem?_zip_eq_some.mp h1
    obtain ⟨u', k1, k2⟩ := Vals.get rv h4
    rw [h2] at k1
    cases k1
    rw [List.map_id] at hr2
    obtain ⟨bs, r, hl2, _, _⟩ := PySem.W.readsAll_at hr2 i t.2 h2
    have e1 : (toPys ds).getD i .none = toPy t.1.1 := by
      rw [toPys_map, List.getD_eq_getElem?_getD, List.getElem?_map, h3]
      rfl
    rw [e1] at r
    exact ⟨k2, List.mem_of_getElem? h3, bs, r⟩
  have key : ∀ t ∈ T0, k2 (t.2, t.2) = PySem.W.keyToks (toPy t.1.1) := fun t ht => by
    obtain ⟨_, h2, bs, r⟩ := rel t ht
    refine PySem.W.keyD_some (PySem.W.dataKind_some hal ?_ r)
    rw [toPys_map]
    exact List.mem_map.mpr ⟨_, h2, rfl⟩
  have tot := PySem.W.sortLe_total κ.toKeyOrd false k2
  have tr : ∀ a b c : (D × V) × Value, r0 a b = true → r0 b c = true → r0 a c = true := fun a b c h1 h2 => tot.trans (a.2, a.2) (b.2, b.2) (c.2, c.2) h1 h2
  have tt : ∀ a b : (D × V) × Value, (r0 a b || r0 b a) = true := fun a b => by rw [Bool.or_eq_true]; exact tot.total (a.2, a.2) (b.2, b.2)
  have pw0 : (T0.mergeSort r0).Pairwise fun a b => r0 a b = true := List.pairwise_mergeSort (le := r0) tr tt T0
  have pw : ((T0.mergeSort r0).map fun t => t.1.1).Pairwise leP := by
    refine List.pairwise_map.mpr (pw0.imp_of_mem fun {x y} hx hy h => ?_)
    have h : (!κ.toKeyOrd.blt (k2 (y.2, y.2)) (k2 (x.2, x.2))) = true := h
    rw [key _ (pm.mem_iff.mp hx), key _ (pm.mem_iff.mp hy), Bool.not_eq_true'] at h
    exact h
  obtain ⟨e1, e2⟩ := sortD_ok (alikes_iff ha) he
  have d0 : (T0.map fun t => t.1.1) = ds := by
    have e : (fun t : (D × V) × Value => t.1.1) = Prod.fst ∘ Prod.fst := rfl
    rw [e, ← List.map_map, List.map_fst_zip (by rw [List.length_zip]; omega), List.map_fst_zip (by omega)]
  have p2 : ((T0.mergeSort r0).map fun t => t.1.1).Perm ds := by
    have := pm.map fun t => t.1.1
    rwa [d0] at this
  have ee : es = (T0.mergeSort r0).map fun t => t.1.1 := by
    refine List.Perm.eq_of_pairwise (fun a b h1 h2 h3 h4 => ?_) e2 pw (e1.trans p2.symm)
    exact like_same (alikes_iff ha _ (e1.mem_iff.mp h1) _ (p2.mem_iff.mp h2)) h4 h3
  have t0 : T0.map Prod.fst = ds.zip vs := List.map_fst_zip (by rw [List.length_zip]; omega)
  obtain ⟨ep, he'⟩ := PyProof.Rows.sortedAll_at s.heap its (PySem.W.sortVals κ false its its).toArray
  have rvo : Vals ((T0.mergeSort r0).map fun t => t.1.2) ((T0.mergeSort r0).map Prod.snd) := vals_map fun t ht => (rel t (pm.mem_iff.mp ht)).1
  rw [← out] at rvo
  have hlen2 : ((T0.mergeSort r0).map fun t => t.1.2).length ≤ sizeLine := by
    rw [List.length_map, pm.length_eq, List.length_zip, List.length_zip]
    omega
  exact ⟨.ref _, upd H (s.heap.objs.size + 1) (.lst ((T0.mergeSort r0).map fun t => t.1.2)), I.laid (t' := s.toks) (fun _ _ => PyProof.Rows.sortedAll_old) (Nat.le_succ _) ⟨hlen2, _, ep, rvo, he'⟩, rfl,
    q _ _ ((T0.mergeSort r0).map Prod.fst) (I.hok.fresh (Nat.le_succ _)) (by have := pm.map Prod.fst; rwa [t0] at this) (by rw [ee, List.map_map]; rfl) (by rw [List.map_map]; rfl)⟩
end EV
end

section
set_option Elab.async false
set_option linter.all false
set_option maxRecDepth 100000
set_option maxHeartbeats 1000000
/-! EV7: slices, built-ins, methods -/
namespace EV
open PySem PySem.Spec PyProof.Rows L2
/-! ### slices -/
theorem clip_sIx (n d : Nat) (i : Int) : clip n i = HT.sIx n d (some i) := rfl
theorem cut_sIx {α : Type} (xs : List α) (lo hi : Option Int) : cut xs lo hi = (xs.drop (HT.sIx xs.length 0 lo)).take (HT.sIx xs.length xs.length hi - HT.sIx xs.length 0 lo) := by
  unfold cut
  cases lo <;> cases hi <;> rfl
theorem Reps.cut {K : PySem.W.Frag} {L : Addr → Prop} {H : Hp} {ds : List D} {vs : List V} (r : Reps K L H ds vs) (lo hi : Option Int) : Reps K L H (EV.cut ds lo hi) (cutV vs lo hi) := by
  rw [cut_sIx]
  unfold cutV
  rw [← r.length]
  exact (r.drop _).take _
theorem cut_len {α : Type} (xs : List α) (lo hi : Option Int) : (cut xs lo hi).length ≤ xs.length := by
  unfold cut
  rw [List.length_take, List.length_drop]
  omega
def rSl (K : PySem.W.Frag) : V → Option Int → Option Int → Hp → VK → Prop := fun x lo hi H Q => (rSlA K x lo hi H Q ∨ rSlL K x lo hi H Q) ∨ rSlS x lo hi H Q
theorem slr (X : Cx) : SlR X (rSl X.K) := (sl_tupA.or sl_list).or sl_str
theorem sl_ok {c : Glb} {g : G} {x z : D} {w : V} {lo hi : Option Int} {Q : VK} (ok : GOk c g) (hx : Pk c g x w) (h : slcD x lo hi = some z) (q : OutN c g z Q) : rSl c.K w lo hi g.H Q := by
  unfold slcD at h
  split at h
  · cases h
    cases hx with
    | @tup a _ vs hs hl hr =>
      rename_i ds
      refine .inl (.inl ⟨a, vs, rfl, hs.sq, fun e => ?_, fun e p hp => ?_⟩)
      · have e2 : cut ds lo hi = ds := by
          rw [cut_sIx, hr.length, e.1, e.2]
          simp [← hr.length]
        rw [e2] at q
        exact q.sc ok (.tup hs hl hr) (fun _ z => by cases z)
      · exact q.tup ok hp (Nat.le_trans (cut_len _ _ _) hl) (hr.cut lo hi)
  · cases h
    obtain ⟨a, vs, rfl, hs, hl, hr⟩ := hx
    exact .inl (.inr ⟨a, vs, rfl, SqL.of hs, fun p hp => q p _ hp (Nat.le_trans (cut_len _ _ _) hl) (hr.cut lo hi)⟩)
  · split at h
    · rename_i s hl
      cases h
      cases hx with
      | str o =>
        refine .inr ⟨_, rfl, by rw [SS_length, ← lim_eq]; exact hl, ?_⟩
        have e : cutS (SS s) lo hi = SS (cut s lo hi) := by
          unfold cutS SS
          rw [cut_sIx]
          simp [Str.length]
        rw [e]
        refine q.sc ok (.str fun k hk => o k ?_) (fun _ z => by cases z)
        exact List.mem_of_mem_drop (List.mem_of_mem_take hk)
    · cases h
  · cases h
/-- a part's evaluation -/
def tOv (c : Glb) (U : Env) (W : WX) (l : LO) : TO := fun σ H Q => ∃ (g : G) (loc : Loc), g.H = H ∧ GOk c g ∧ LocOk c g loc σ ∧ Out c g W σ (evO U l loc g.S) (fun o g' => Q o g'.H)
theorem PO.imp {X : Cx} {e : Option Expr} {t t' : TO} (h : PO X e t) (i : ∀ σ H Q, t' σ H Q → t σ H Q) : PO X e t' := ⟨fun pins s σ H Q I q => h.run pins s σ H Q I (i _ _ _ q)⟩
section
variable {c : Glb} {U : Env} {W : WX} {X : Cx} {e a b d : Expr} {l la lb ld : LE} {pos p2 : Pos} {lo hi : Option Expr} {ol oh : LO}
theorem so_no : PO X none (tOv c U W .no) := PO.imp po_none fun σ H Q => by
  rintro ⟨g, loc, rfl, ok, lo, out⟩
  exact Out.here out ok
theorem so_yes (h : PE X e (tEv c U W l)) : PO X (some e) (tOv c U W (.yes l)) := PO.imp (po_some h) fun σ H Q => by
  rintro ⟨g, loc, rfl, ok, lo, out⟩
  refine ⟨g, loc, rfl, ok, lo, (Out.bind out).imp fun v g1 ⟨le1, ok1, out1⟩ w rw1 => ?_⟩
  cases rw1 with
  | d r =>
    cases r with
    | int i => exact ⟨i, rfl, Out.here out1 ok1⟩
    | _ => exact False.elim out1
  | _ => exact False.elim out1
theorem slcV_ok {g : G} {v : Vl} {w : V} {p q : Option Int} {Q : VK} {σ : L2.St} (ok : GOk c g) (r : RepV c g v w) (out : Out c g W σ (slcV v p q g.S) (fun v g' => ∃ z, v = Vl.d z ∧ OutN c g' z Q)) : rSl c.K w p q g.H Q := by
  have gen : ∀ v, RepV c g v w → Out c g W σ (R.opt ((peek g.S v).bind fun x => slcD x p q) fun z => R.ok (Vl.d z) g.S) (fun v g' => ∃ z, v = Vl.d z ∧ OutN c g' z Q) → rSl c.K w p q g.H Q := fun v r out => by
    obtain ⟨z, hz, o2⟩ := Out.opt out
    rw [Option.bind_eq_some_iff] at hz
    obtain ⟨x, hx, hz⟩ := hz
    obtain ⟨z', e', q'⟩ := Out.here o2 ok
    cases e'
    exact sl_ok ok (peek_ok ok r hx) hz q'
  cases r with
  | scr h hl hr =>
    obtain ⟨z', e', q'⟩ := Out.here out ok
    cases e'
    exact .inl (.inr ⟨_, _, rfl, h.sq, fun pp hp => q' pp _ hp (Nat.le_trans (cut_len _ _ _) hl) (hr.cut p q)⟩)
  | d r => exact gen _ (.d r) out
  | ref r => exact gen _ (.ref r) out
  | fnv r => exact gen _ (.fnv r) out
  | @exn a k xs r => exact gen (.exn k xs) (.exn r) out
  | clo k r => exact gen _ (.clo k r) out
theorem se_slc (hK : X.K = c.K) (ha : PE X a (tEv c U W la)) (hl : PO X lo (tOv c U W ol)) (hh : PO X hi (tOv c U W oh)) : PE X (.Subscript a (.Slice lo hi none p2) pos) (tEvN c U W (.slc la ol oh)) := PE.imp (pe_slice (slr X) ha hl hh) fun σ H Q => by
  rintro ⟨g, loc, rfl, ok, lo, out⟩
  refine ⟨g, loc, rfl, ok, lo, (Out.bind out).imp fun v g1 ⟨le1, ok1, out1⟩ w rw1 => ?_⟩
  refine ⟨g1, loc, rfl, ok1, lo.le ok le1, (Out.bind out1).imp fun p g2 ⟨le2, ok2, out2⟩ => ?_⟩
  refine ⟨g2, loc, rfl, ok2, (lo.le ok le1).le ok1 le2, (Out.bind out2).imp fun q g3 ⟨le3, ok3, out3⟩ => ?_⟩
  rw [hK]
  exact slcV_ok ok3 ((rw1.le ok1 le2).le ok2 le3) out3
/-! ### [::-1] -/
theorem krvS (z : Str) : (Builtin.Str.strSliceIndices none none (-1) z.length).filterMap (z.cps[·]?) = z.cps.toList.reverse := by
  have e : Builtin.Str.strSliceIndices none none (-1) z.length = (List.range z.cps.size).reverse := by
    show sliceRange ((z.length : Int) - 1) (-1) (-1) = _
    rw [PySem.W.krv_sliceRange, PySem.W.krv_range]
    rfl
  rw [e, List.filterMap_reverse, PySem.W.krv_all]
theorem pe_revS {k : Nat} {p1 p2 p3 : Pos} {te : TE} (he : PE X e te) : PE X (.Subscript e (.Slice none none (some (.UnaryOp .USub (.Constant (.int 1) k p1) p2)) p3) pos) (fun σ H Q => te σ H fun x H1 => (∃ z, x = .str z ∧ z.length ≤ sizeLine ∧ Q (.str ⟨z.cps.toList.reverse.toArray⟩) H1) ∨ (∃ a xs, x = .ref a ∧ SqL X.K H1 a xs ∧ ∀ p, H1 p = none → Q (.ref p) (upd H1 p (.lst xs.reverse)))) := by
  refine ⟨fun pins s σ H Q I h => ?_⟩
  refine Subscript_ (thn (he.run pins s σ H _ I h) fun v s1 ⟨x, H1, I1, r1, q1⟩ => ?_)
  have hst : PO X (some (.UnaryOp .USub (.Constant (.int 1) k p1) p2)) (tPart (tUn (rU fun i => .int (-i)) (tC (.int 1)))) := po_some (pe_un un_neg pe_int)
  refine wpAny_Slice (thn (po_none.run pins s1 σ H1 (fun o H2 => o = none ∧ H2 = H1) I1 ⟨rfl, rfl⟩) fun vl s2 ⟨l, H2, I2, pl, el, e2⟩ => ?_)
  subst el e2
  refine thn (po_none.run pins s2 σ H2 (fun o H3 => o = none ∧ H3 = H2) I2 ⟨rfl, rfl⟩) fun vu s3 ⟨u, H3, I3, pu, eu, e3⟩ => ?_
  subst eu e3
  refine thn (hst.run pins s3 σ H3 (fun o H4 => o = some (-1) ∧ H4 = H3) I3 ⟨1, rfl, -1, rfl, rfl, rfl⟩) fun vs s4 ⟨o, H4, I4, ps, eo, e4⟩ => ?_
  subst eo e4
  have I5 : Inv X pins σ H4 { s4 with heap := s4.heap.push { cls := .type "slice", data := .fields #[vl, vu, vs] } } := I4.kept (t' := s4.toks) fun b ob q => Heap.get?_push_of_some _ q
  rcases q1 with ⟨z, ex, hz, q⟩ | ⟨a, xs, ex, hx, q⟩
  · subst ex
    obtain ⟨t, rfl⟩ := r1
    refine tail_any (typeIs_str _ _ _) (PySem.F.slot_str_getitem.lookup) ?_ (by with_unfolding_all rfl)
    cases pl
    cases pu
    cases ps with
    | int _ tk =>
      refine wpAny_getItem_str_slice (l := none) (u := none) (st := some (-1, tk)) ⟨_, Heap.get?_push_size _ rfl, rfl, rfl⟩ rfl ?_
      have hl : (⟨((Builtin.Str.strSliceIndices none none (-1) z.length).filterMap (z.cps[·]?)).toArray⟩ : Str).length ≤ sizeLine := by
        rw [krvS]
        show z.cps.toList.reverse.toArray.size ≤ _
        have hz : z.cps.size ≤ sizeLine := hz
        simpa using hz
      rw [← krvS] at q
      exact ⟨hl, .str _, H4, I5.tok _, ⟨_, rfl⟩, q⟩
  · subst ex
    cases r1
    obtain ⟨its, r, ht, hz⟩ := I5.list hx
    have hlen := r.length
    show wpAny (model X.prog X.w) X.A (subscriptTail e (.Slice none none (some (.UnaryOp .USub (.Constant (.int 1) k p1) p2)) p3) (.ref a) (.ref s4.heap.objs.size)) (EP X pins σ Q) X.xe { s4 with heap := s4.heap.push { cls := .type "slice", data := .fields #[vl, vu, vs] } }
    refine tail_any (ops := [.ref a, .ref s4.heap.objs.size]) ht.isList.typeIs (PySem.slot_list_getitem.lookup) ?_ (by with_unfolding_all rfl)
    refine wpAny_getItem_list_slice ht.isList (Heap.IsSliceOf.new _ vl vu vs) pl pu ps (by decide) ?_ (by rw [List.size_toArray]; omega)
    rw [PySem.W.krv_pick]
    refine ⟨.ref _, _, I5.laid (t' := s4.toks) (o := .lst xs.reverse) (fun b ob q => Heap.get?_push_of_some _ q) (Nat.le_refl _) ?_, rfl, q _ (I5.hok.fresh (Nat.le_refl _))⟩
    exact ⟨by rw [List.length_reverse]; exact hz, _, 0, r.reverse, Heap.get?_push_size _ rfl⟩
theorem se_rev {k : Nat} {p1 p2 p3 : Pos} (hK : X.K = c.K) (ha : PE X a (tEv c U W la)) : PE X (.Subscript a (.Slice none none (some (.UnaryOp .USub (.Constant (.int 1) k p1) p2)) p3) pos) (tEvN c U W (.rev la)) := PE.imp (pe_revS ha) fun σ H Q => by
  rintro ⟨g, loc, rfl, ok, lo, out⟩
  refine ⟨g, loc, rfl, ok, lo, (Out.bind out).imp fun v g1 ⟨le1, ok1, out1⟩ w rw1 => ?_⟩
  cases h1 : peek g1.S v with
  | none => rw [h1] at out1; exact out1.elim
  | some x =>
    rw [h1] at out1
    obtain ⟨z, hz, q⟩ := Out.opt out1
    obtain ⟨z', e', q'⟩ := Out.here q ok1
    cases e'
    have hx := peek_ok ok1 rw1 h1
    unfold revD at hz
    split at hz
    · cases hz
      obtain ⟨b, vs, rfl, hs, hl, hr⟩ := hx
      exact .inr ⟨b, vs, rfl, SqL.of hs, fun p hp => q' p _ hp (by rw [List.length_reverse]; exact hl) hr.rev⟩
    · split at hz
      · rename_i s hl
        cases hz
        cases hx with
        | str o =>
          refine .inl ⟨_, rfl, by rw [SS_length, ← lim_eq]; exact hl, ?_⟩
          have e : (⟨(SS s).cps.toList.reverse.toArray⟩ : Str) = SS s.reverse := by simp [SS]
          rw [e]
          exact q'.sc ok1 (.str fun k hk => o k (List.mem_reverse.mp hk)) (fun _ z => by cases z)
      · cases hz
    · cases hz
end
/-! ### built-ins by values -/
def biVal : Bi → Value
  | .len => .builtin "len" | .abs => .builtin "abs" | .sorted => .builtin "sorted" | .all => .builtin "all" | .any => .builtin "any" | .min => .builtin "min" | .max => .builtin "max" | .sum => .builtin "sum" | .repr => .builtin "repr"
  | .int => .type "int" | .str => .type "str" | .tup => .type "tuple" | .lst => .type "list"
def biName : Bi → String
  | .len => "len" | .abs => "abs" | .sorted => "sorted" | .all => "all" | .any => "any" | .min => "min" | .max => "max" | .sum => "sum" | .repr => "repr" | .int => "int" | .str => "str" | .tup => "tuple" | .lst => "list"
theorem CallR.or {X : Cx} {f : Value} {r r' : List V → Hp → VK → Prop} (h : CallR X f r) (h' : CallR X f r') : CallR X f (fun xs H Q => r xs H Q ∨ r' xs H Q) := by
  intro pins s σ H xs us Q I rs q
  rcases q with q | q
  · exact h pins s σ H xs us Q I rs q
  · exact h' pins s σ H xs us Q I rs q
theorem CallR.no {X : Cx} {f : Value} : CallR X f (fun _ _ _ => False) := fun _ _ _ _ _ _ _ _ _ q => q.elim
/-- sorted(d) of a table, ints its keys -/
def rSortKI : List V → Hp → VK → Prop := fun xs H Q => ∃ (a : Addr) (kvs : List (Key × V)) (ks : List Int), xs = [.ref a] ∧ Rd H a (.dK kvs) ∧ kvs.map (·.1) = ks.map Sum.inl ∧ ks.length < 64 ∧ ∀ p, H p = none → Q (.ref p) (upd H p (.lst ((srtI ks).map V.int)))
theorem insI_perm (i : Int) : ∀ js : List Int, (insI i js).Perm (i :: js)
  | [] => List.Perm.refl _
  | j :: js => by
    unfold insI
    split
    · exact List.Perm.refl _
    · exact ((insI_perm i js).cons j).trans (List.Perm.swap i j js)
theorem srtI_perm : ∀ is : List Int, (srtI is).Perm is
  | [] => List.Perm.refl _
  | i :: is => (insI_perm i (srtI is)).trans ((srtI_perm is).cons i)
theorem insI_srt (i : Int) : ∀ {js : List Int}, js.Pairwise (· ≤ ·) → (insI i js).Pairwise (· ≤ ·)
  | [], _ => by simp [insI]
  | j :: js, h => by
    rw [List.pairwise_cons] at h
    unfold insI
    split
    · rename_i hij
      refine List.pairwise_cons.mpr ⟨fun x hx => ?_, List.pairwise_cons.mpr h⟩
      rcases List.mem_cons.mp hx with rfl | hx
      · exact hij
      · exact Int.le_trans hij (h.1 x hx)
    · rename_i hij
      refine List.pairwise_cons.mpr ⟨fun x hx => ?_, insI_srt i h.2⟩
      rcases List.mem_cons.mp ((insI_perm i js).mem_iff.mp hx) with rfl | hx
      · omega
      · exact h.1 x hx
theorem srtI_srt : ∀ is : List Int, (srtI is).Pairwise (· ≤ ·)
  | [] => List.Pairwise.nil
  | i :: is => insI_srt i (srtI_srt is)
theorem srt_uniq : ∀ {xs ys : List Int}, xs.Perm ys → xs.Pairwise (· ≤ ·) → ys.Pairwise (· ≤ ·) → xs = ys
  | [], ys, p, _, _ => (List.nil_perm.mp p).symm ▸ rfl
  | x :: xs, [], p, _, _ => by have := p.length_eq; simp at this
  | x :: xs, y :: ys, p, hx, hy => by
    rw [List.pairwise_cons] at hx hy
    have e : x = y := by
      have h1 : x ∈ y :: ys := p.mem_iff.mp List.mem_cons_self
      have h2 : y ∈ x :: xs := p.mem_iff.mpr List.mem_cons_self
      have l1 : y ≤ x := by
        rcases List.mem_cons.mp h1 with e | h1
        · rw [e]; exact Int.le_refl _
        · exact hy.1 x h1
      have l2 : x ≤ y := by
        rcases List.mem_cons.mp h2 with e | h2
        · rw [e]; exact Int.le_refl _
        · exact hx.1 y h2
      omega
    subst e
    rw [srt_uniq ((List.perm_cons x).mp p) hx.2 hy.2]
theorem cr_sortKI {X : Cx} (hc : X.calm = true) : CallR X (.builtin "sorted") rSortKI := by
  intro pins s σ H xs us Q I rs q
  obtain ⟨a, kvs, ks, ex, hd, hk, hl, q⟩ := q
  refine call_sortedDI hc pins s σ H xs us Q I rs ⟨a, kvs, ks, ex, hd, hk, hl, fun ys p h1 h2 hp => ?_⟩
  rw [srt_uniq (h1.trans (srtI_perm ks).symm) h2 (srtI_srt ks)]
  exact q p hp
/-! what is told by repr -/
theorem toPys_nodict : ∀ ds : List D, (∀ d ∈ ds, (toPy d).hasDict = false) → PyData.hasDictAll (toPys ds) = false
  | [], _ => by simp only [toPys, PyData.hasDictAll]
  | d :: ds, h => by simp only [toPys, PyData.hasDictAll, h d List.mem_cons_self, toPys_nodict ds fun x hx => h x (List.mem_cons_of_mem _ hx), Bool.or_self]
mutual
theorem toPy_nodict : ∀ d : D, (toPy d).hasDict = false
  | .non => by simp only [toPy, PyData.hasDict]
  | .bl b => by simp only [toPy, PyData.hasDict]
  | .int i => by simp only [toPy, PyData.hasDict]
  | .str s => by simp only [toPy, PyData.hasDict]
  | .tup ds => by simp only [toPy, PyData.hasDict]; exact toPys_nodict ds (toPy_nodicts ds)
  | .lst ds => by simp only [toPy, PyData.hasDict]; exact toPys_nodict ds (toPy_nodicts ds)
theorem toPy_nodicts : ∀ ds : List D, ∀ d ∈ ds, (toPy d).hasDict = false
  | [], _, h => by cases h
  | x :: xs, d, h => by
    rcases List.mem_cons.mp h with e | h
    · rw [e]; exact toPy_nodict x
    · exact toPy_nodicts xs d h
end
section
variable {X : Cx} {L : Addr → Prop} {pins : List (Addr × Obj)} {σ : L2.St} {H : Hp} {s : Shared}
mutual
theorem Rep.reads (I : Inv X pins σ H s) : ∀ (d : D) (v : V) (u : Value), Rep X.K L H d v → RelV v u → ∃ as, Reads s.heap u (toPy d) as
  | .non, _, u, h, r => by cases h; cases (show u = Value.none from r); exact ⟨_, .none⟩
  | .bl b, _, u, h, r => by cases h; cases (show u = Value.bool b from r); exact ⟨_, .bool b⟩
  | .int i, _, u, h, r => by cases h; obtain ⟨t, rfl⟩ := r; exact ⟨_, .int i t⟩
  | .str x, _, u, h, r => by cases h; obtain ⟨t, rfl⟩ := r; exact ⟨_, .str _ t⟩
  | .tup ds, _, u, h, r => by
    cases h with
    | @tup a _ vs ht hl hr =>
      cases (show u = Value.ref a from r)
      obtain ⟨its, rv, ⟨o, e1, e2, n, e3⟩, _⟩ := I.tuple ht.sq
      obtain ⟨as, z⟩ := Reps.reads I ds vs its hr rv
      exact ⟨as, .tuple e1 e2 e3 z⟩
  | .lst ds, _, u, h, r => by
    cases h with
    | @lst a _ vs ht hn hl hr =>
      cases (show u = Value.ref a from r)
      obtain ⟨its, rv, ⟨o, n, e1, e2, _, e3⟩, _⟩ := I.list (.inl (.inl ht))
      obtain ⟨as, z⟩ := Reps.reads I ds vs its hr rv
      exact ⟨_, .list e1 e2 e3 z⟩
theorem Reps.reads (I : Inv X pins σ H s) : ∀ (ds : List D) (vs : List V) (us : List Value), Reps X.K L H ds vs → Vals vs us → ∃ as, ReadsAll s.heap us (toPys ds) as
  | [], _, us, h, r => by cases h; cases r; exact ⟨_, .nil⟩
  | d :: ds, _, us, h, r => by
    cases h with
    | @cons _ v _ vs h1 h2 =>
      cases r with
      | cons r1 r2 =>
        obtain ⟨as, z1⟩ := Rep.reads I d v _ h1 r1
        obtain ⟨bs, z2⟩ := Reps.reads I ds vs _ h2 r2
        exact ⟨_, .cons z1 z2⟩
end
end
def rRepr (K : PySem.W.Frag) : List V → Hp → VK → Prop := fun xs H Q => ∃ (L : Addr → Prop) (d : D) (v : V) (t : List Nat), xs = [v] ∧ Rep K L H d v ∧ (∀ z, d ≠ .str z) ∧ reprD d = some t ∧ Q (.str (SS t)) H
theorem reprD_some {d : D} {t : List Nat} (h : reprD d = some t) : (toPy d).showable = true ∧ (toPy d).depth ≤ 60 ∧ (toPy d).shown.length ≤ lim ∧ okS t ∧ SS t = (toPy d).shown := by
  unfold reprD at h
  split at h
  · rename_i e
    simp only [Bool.and_eq_true, decide_eq_true_eq, List.all_eq_true] at e
    cases h
    exact ⟨e.1, e.2.1, by simpa [Str.length] using e.2.2.1, fun c hc => e.2.2.2 c hc, by simp [SS]⟩
  · cases h
theorem cr_repr {X : Cx} (hu : X.A.units + 200 < cLine) (hg : X.A.guards = some []) : CallR X (.builtin "repr") (rRepr X.K) := by
  intro pins s σ H xs us Q I rs q
  obtain ⟨L, d, v, t, rfl, r, ns, h, q⟩ := q
  obtain ⟨h1, h2, h3, h4, h5⟩ := reprD_some h
  rw [h5] at q
  cases rs with
  | cons rv rn =>
    cases rn
    rename_i u
    cases d with
    | non => cases r; cases (show u = Value.none from rv); exact PySem.P.repr_of_none ⟨.str _, H, I.tok _, ⟨_, rfl⟩, q⟩
    | bl b => cases r; cases (show u = Value.bool b from rv); exact PySem.P.repr_of_bool ⟨.str _, H, I.tok _, ⟨_, rfl⟩, q⟩
    | int i => cases r; obtain ⟨k, rfl⟩ := rv; exact PySem.P.repr_of_int (by simpa [toPy, PyData.showable] using h1) ⟨.str _, H, I.tok _, ⟨_, rfl⟩, q⟩
    | str z => exact absurd rfl (ns z)
    | tup ds =>
      obtain ⟨as, z⟩ := Rep.reads I _ _ _ r rv
      cases r
      rename_i a vs _ _ _
      cases (show u = Value.ref a from rv)
      exact repr_of_reads' z h1 (PyData.noDict_hsm (toPy_nodict _)) hg (by omega) (fun _ _ e => e) (fun h' k tk hk => ⟨.str _, H, I.kept (t' := tk) hk, ⟨k, rfl⟩, q⟩) (Nat.le_trans h3 (by decide))
    | lst ds =>
      obtain ⟨as, z⟩ := Rep.reads I _ _ _ r rv
      cases r
      rename_i a vs _ _ _ _
      cases (show u = Value.ref a from rv)
      exact repr_of_reads' z h1 (PyData.noDict_hsm (toPy_nodict _)) hg (by omega) (fun _ _ e => e) (fun h' k tk hk => ⟨.str _, H, I.kept (t' := tk) hk, ⟨k, rfl⟩, q⟩) (Nat.le_trans h3 (by decide))
def rBi (K : PySem.W.Frag) : Bi → List V → Hp → VK → Prop
  | .len => fun xs H Q => ((∃ p ys, xs = [.ref p] ∧ (SqL K H p ys ∨ SqT K H p ys) ∧ Q (.int ys.length) H) ∨ (∃ a kvs, xs = [.ref a] ∧ Rd H a (.dK kvs) ∧ Q (.int kvs.length) H)) ∨ (∃ z, xs = [.str z] ∧ z.length ≤ sizeLine ∧ Q (.int z.length) H)
  | .abs => fun xs H Q => ∃ i, xs = [.int i] ∧ Q (.int (if i < 0 then -i else i)) H
  | .int => fun xs H Q => (∃ i, xs = [.int i] ∧ Q (.int i) H) ∨ ∃ k, xs = [.bl k] ∧ Q (.int (if k then 1 else 0)) H
  | .tup => fun xs H Q => ∃ p ys, xs = [.ref p] ∧ ((SqL K H p ys ∧ ∀ l, H l = none → Q (.ref l) (upd H l (.tup ys))) ∨ (SqT K H p ys ∧ Q (.ref p) H))
  | .lst => fun xs H Q => (∃ p ys, xs = [.ref p] ∧ (SqL K H p ys ∨ SqT K H p ys) ∧ ∀ l, H l = none → Q (.ref l) (upd H l (.lst ys))) ∨ ∃ (a : Addr) (kvs : List (Key × V)), xs = [.ref a] ∧ Rd H a (.dK kvs) ∧ ∀ p, H p = none → Q (.ref p) (upd H p (.lst (kvs.map fun kv => kV kv.1)))
  | .all => rAll K
  | .any => rAny K
  | .sum => rSum K
  | .min => fun xs H Q => (∃ i j, xs = [.int i, .int j] ∧ Q (.int (if j < i then j else i)) H) ∨ (rMin K xs H Q ∨ rLeastD leastD K xs H Q)
  | .max => fun xs H Q => (∃ i j, xs = [.int i, .int j] ∧ Q (.int (if j > i then j else i)) H) ∨ (rMax K xs H Q ∨ rLeastD mostD K xs H Q)
  | .sorted => fun xs H Q => rSortD K xs H Q ∨ rSortKI xs H Q
  | .repr => rRepr K
  | _ => fun _ _ _ => False
theorem call_len_dic {X : Cx} : CallR X (.builtin "len") (fun xs H Q => ∃ a kvs, xs = [.ref a] ∧ Rd H a (.dK kvs) ∧ Q (.int kvs.length) H) := by
  intro pins s σ H xs us Q I rs q
  obtain ⟨a, kvs, rfl, hd, q⟩ := q
  obtain rfl := Vals.ref1 rs
  exact d_len I hd fun t s' I' => ⟨.int kvs.length, H, I', ⟨t, rfl⟩, q⟩
theorem bir {X : Cx} (hc : X.calm = true) (hu : X.A.units + 200 < cLine) (hgd : X.A.guards = some []) : ∀ b : Bi, CallR X (biVal b) (rBi X.K b)
  | .len => CallR.or (CallR.or call_len_seq call_len_dic) call_len_str
  | .abs => call_abs
  | .int => call_int1
  | .tup => call_tuple_of
  | .lst => CallR.or call_list_of (call_listD hc)
  | .all => cr_all hc
  | .any => cr_any hc
  | .sum => cr_sum hc
  | .min => CallR.or (call_min2 hc) (CallR.or (cr_min hc) (cr_leastD hc hu))
  | .max => CallR.or (call_max2 hc) (CallR.or (cr_max hc) (cr_mostD hc hu))
  | .str => CallR.no
  | .sorted => CallR.or (cr_sortD hu) (cr_sortKI hc)
  | .repr => cr_repr hu hgd
theorem bitsOf_rep {K : PySem.W.Frag} {L : Addr → Prop} {H : Hp} : ∀ {ds : List D} {bs : List Bool} {vs : List V}, bitsOf ds = some bs → Reps K L H ds vs → vs = bs.map V.bl
  | [], bs, vs, h, r => by cases h; cases r; rfl
  | d :: ds, bs, vs, h, r => by
    cases r with
    | cons r1 r2 =>
      cases d with
      | bl i =>
        cases e : bitsOf ds with
        | none => rw [bitsOf, e] at h; cases h
        | some ms => rw [bitsOf, e] at h; cases h; cases r1; rw [bitsOf_rep e r2]; rfl
      | _ => cases h
/-! the least of ints by the fold -/
theorem leastI : ∀ {ds : List D} {m : Int} {z : D}, leastD (.int m) ds = some z → ∃ (ns : List Int) (k : Int), intsOf ds = some ns ∧ z = .int k ∧ k ∈ m :: ns ∧ ∀ y ∈ m :: ns, k ≤ y
  | [], m, z, h => by cases h; exact ⟨[], m, rfl, rfl, by simp, by simp⟩
  | d :: ds, m, z, h => by
    cases d with
    | int i =>
      have h : (match some (decide (i < m)) with | some true => leastD (.int i) ds | some false => leastD (.int m) ds | none => none) = some z := h
      by_cases hi : i < m
      · rw [decide_eq_true hi] at h
        obtain ⟨ns, k, h1, h2, h3, h4⟩ := leastI h
        refine ⟨i :: ns, k, by rw [intsOf, h1]; rfl, h2, ?_, fun y hy => ?_⟩
        · exact List.mem_cons_of_mem _ h3
        · rcases List.mem_cons.mp hy with rfl | hy
          · exact Int.le_trans (h4 i List.mem_cons_self) (Int.le_of_lt hi)
          · exact h4 y hy
      · rw [decide_eq_false hi] at h
        obtain ⟨ns, k, h1, h2, h3, h4⟩ := leastI h
        refine ⟨i :: ns, k, by rw [intsOf, h1]; rfl, h2, ?_, fun y hy => ?_⟩
        · rcases List.mem_cons.mp h3 with e | e
          · rw [e]; exact List.mem_cons_self
          · exact List.mem_cons_of_mem _ (List.mem_cons_of_mem _ e)
        · rcases List.mem_cons.mp hy with rfl | hy
          · exact h4 y List.mem_cons_self
          · rcases List.mem_cons.mp hy with rfl | hy
            · exact Int.le_trans (h4 m List.mem_cons_self) (by omega)
            · exact h4 y (List.mem_cons_of_mem _ hy)
    | _ => cases h
theorem mostI : ∀ {ds : List D} {m : Int} {z : D}, mostD (.int m) ds = some z → ∃ (ns : List Int) (k : Int), intsOf ds = some ns ∧ z = .int k ∧ k ∈ m :: ns ∧ ∀ y ∈ m :: ns, y ≤ k
  | [], m, z, h => by cases h; exact ⟨[], m, rfl, rfl, by simp, by simp⟩
  | d :: ds, m, z, h => by
    cases d with
    | int i =>
      have h : (match some (decide (m < i)) with | some true => mostD (.int i) ds | some false => mostD (.int m) ds | none => none) = some z := h
      by_cases hi : m < i
      · rw [decide_eq_true hi] at h
        obtain ⟨ns, k, h1, h2, h3, h4⟩ := mostI h
        refine ⟨i :: ns, k, by rw [intsOf, h1]; rfl, h2, ?_, fun y hy => ?_⟩
        · exact List.mem_cons_of_mem _ h3
        · rcases List.mem_cons.mp hy with rfl | hy
          · exact Int.le_trans (Int.le_of_lt hi) (h4 i List.mem_cons_self)
          · exact h4 y hy
      · rw [decide_eq_false hi] at h
        obtain ⟨ns, k, h1, h2, h3, h4⟩ := mostI h
        refine ⟨i :: ns, k, by rw [intsOf, h1]; rfl, h2, ?_, fun y hy => ?_⟩
        · rcases List.mem_cons.mp h3 with e | e
          · rw [e]; exact List.mem_cons_self
          · exact List.mem_cons_of_mem _ (List.mem_cons_of_mem _ e)
        · rcases List.mem_cons.mp hy with rfl | hy
          · exact h4 y List.mem_cons_self
          · rcases List.mem_cons.mp hy with rfl | hy
            · exact Int.le_trans (by omega) (h4 m List.mem_cons_self)
            · exact h4 y (List.mem_cons_of_mem _ hy)
    | _ => cases h
end EV
end

section
set_option Elab.async false
set_option linter.all false
set_option maxRecDepth 100000
set_option maxHeartbeats 1000000
/-! EV8: built-ins, methods, isinstance -/
namespace EV
open PySem PySem.Spec PyProof.Rows L2
theorem Pks.one {c : Glb} {g : G} {x : D} {ws : List V} (h : Pks c g [x] ws) : ∃ w, ws = [w] ∧ Pk c g x w := by
  cases h with
  | cons h t => cases t; exact ⟨_, rfl, h⟩
theorem Pks.two {c : Glb} {g : G} {x y : D} {ws : List V} (h : Pks c g [x, y] ws) : ∃ w u, ws = [w, u] ∧ Pk c g x w ∧ Pk c g y u := by
  cases h with
  | cons h t => obtain ⟨u, rfl, h2⟩ := t.one; exact ⟨_, _, rfl, h, h2⟩
theorem Reps.zip {K : PySem.W.Frag} {L : Addr → Prop} {H : Hp} : ∀ {ds : List D} {vs : List V}, Reps K L H ds vs → ∀ t ∈ ds.zip vs, Rep K L H t.1 t.2
  | _, _, .nil, t, h => by simp at h
  | _, _, .cons r s, t, h => by
    rcases List.mem_cons.mp (by simpa using h) with rfl | h
    · exact r
    · exact Reps.zip s t h
theorem Reps.maps {K : PySem.W.Frag} {L : Addr → Prop} {H : Hp} : ∀ {T : List (D × V)}, (∀ t ∈ T, Rep K L H t.1 t.2) → Reps K L H (T.map Prod.fst) (T.map Prod.snd)
  | [], _ => .nil
  | t :: T, h => .cons (h t List.mem_cons_self) (Reps.maps fun u hu => h u (List.mem_cons_of_mem _ hu))
theorem bi_ok {c : Glb} {g : G} {b : Bi} {xs : List D} {z : D} {ws : List V} {Q : VK} (ok : GOk c g) (hx : Pks c g xs ws) (h : biD b xs = some z) (q : OutN c g z Q) : rBi c.K b ws g.H Q := by
  unfold biD at h
  split at h
  · split at h
    · rename_i s hl
      cases h
      obtain ⟨w, rfl, hx1⟩ := hx.one
      cases hx1 with
      | str o => exact .inr ⟨_, rfl, by rw [SS_length, ← lim_eq]; exact hl, by rw [SS_length]; exact q.sc ok (.int _) (fun _ z => by cases z)⟩
    · cases h
  · cases h
    obtain ⟨w, rfl, hx1⟩ := hx.one
    cases hx1 with
    | tup hs hl hr => exact .inl (.inl ⟨_, _, rfl, .inr hs.sq, by rw [← hr.length]; exact q.sc ok (.int _) (fun _ z => by cases z)⟩)
  · cases h
    obtain ⟨w, rfl, a, vs, rfl, hs, hl, hr⟩ := hx.one
    exact .inl (.inl ⟨_, _, rfl, .inl (SqL.of hs), by rw [← hr.length]; exact q.sc ok (.int _) (fun _ z => by cases z)⟩)
  · cases h
    obtain ⟨w, rfl, hx1⟩ := hx.one
    cases hx1
    exact ⟨_, rfl, q.sc ok (.int _) (fun _ z => by cases z)⟩
  · cases h
    obtain ⟨w, rfl, hx1⟩ := hx.one
    cases hx1
    exact .inl ⟨_, rfl, q.sc ok (.int _) (fun _ z => by cases z)⟩
  · cases h
    obtain ⟨w, rfl, hx1⟩ := hx.one
    cases hx1
    exact .inr ⟨_, rfl, q.sc ok (.int _) (fun _ z => by cases z)⟩
  · cases h
    obtain ⟨w, rfl, a, vs, rfl, hs, hl, hr⟩ := hx.one
    exact ⟨_, _, rfl, .inl ⟨SqL.of hs, fun p hp => q.tup ok hp hl hr⟩⟩
  · cases h
    obtain ⟨w, rfl, hx1⟩ := hx.one
    cases hx1 with
    | tup hs hl hr => exact ⟨_, _, rfl, .inr ⟨hs.sq, q.sc ok (.tup hs hl hr) (fun _ z => by cases z)⟩⟩
  · cases h
    obtain ⟨w, rfl, a, vs, rfl, hs, hl, hr⟩ := hx.one
    exact .inl ⟨_, _, rfl, .inl (SqL.of hs), fun p hp => q p _ hp hl hr⟩
  · cases h
    obtain ⟨w, rfl, hx1⟩ := hx.one
    cases hx1 with
    | tup hs hl hr => exact .inl ⟨_, _, rfl, .inr hs.sq, fun p hp => q p _ hp hl hr⟩
  · rw [Option.map_eq_some_iff] at h
    obtain ⟨bs, h1, rfl⟩ := h
    obtain ⟨w, rfl, a, vs, rfl, hs, hl, hr⟩ := hx.one
    rw [bitsOf_rep h1 hr] at hs
    exact ⟨_, _, rfl, SqL.of hs, q.sc ok (.bl _) (fun _ z => by cases z)⟩
  · rw [Option.map_eq_some_iff] at h
    obtain ⟨bs, h1, rfl⟩ := h
    obtain ⟨w, rfl, a, vs, rfl, hs, hl, hr⟩ := hx.one
    rw [bitsOf_rep h1 hr] at hs
    exact ⟨_, _, rfl, SqL.of hs, q.sc ok (.bl _) (fun _ z => by cases z)⟩
  · rw [Option.map_eq_some_iff] at h
    obtain ⟨bs, h1, rfl⟩ := h
    obtain ⟨w, rfl, a, vs, rfl, hs, hl, hr⟩ := hx.one
    rw [intsOf_rep h1 hr] at hs
    exact ⟨_, _, rfl, SqL.of hs, q.sc ok (.int _) (fun _ z => by cases z)⟩
  · cases h
    obtain ⟨w, u, rfl, hx1, hy⟩ := hx.two
    cases hx1; cases hy
    exact .inl ⟨_, _, rfl, q.sc ok (.int _) (fun _ z => by cases z)⟩
  · cases h
    obtain ⟨w, u, rfl, hx1, hy⟩ := hx.two
    cases hx1; cases hy
    exact .inl ⟨_, _, rfl, q.sc ok (.int _) (fun _ z => by cases z)⟩
  · obtain ⟨ns, k, h1, rfl, h3, h4⟩ := leastI h
    obtain ⟨w, rfl, a, vs, rfl, hs, hl, hr⟩ := hx.one
    rename_i m ds
    have e : intsOf (D.int m :: ds) = some (m :: ns) := by rw [intsOf, h1]; rfl
    rw [intsOf_rep e hr] at hs
    refine .inr (.inl ⟨_, m :: ns, rfl, SqL.of hs, by simp, fun m' hm' hle => ?_⟩)
    have e2 : m' = k := Int.le_antisymm (hle k h3) (h4 m' hm')
    subst e2
    exact q.sc ok (.int _) (fun _ z => by cases z)
  · obtain ⟨ns, k, h1, rfl, h3, h4⟩ := mostI h
    obtain ⟨w, rfl, a, vs, rfl, hs, hl, hr⟩ := hx.one
    rename_i m ds
    have e : intsOf (D.int m :: ds) = some (m :: ns) := by rw [intsOf, h1]; rfl
    rw [intsOf_rep e hr] at hs
    refine .inr (.inl ⟨_, m :: ns, rfl, SqL.of hs, by simp, fun m' hm' hle => ?_⟩)
    have e2 : m' = k := Int.le_antisymm (h4 m' hm') (hle k h3)
    subst e2
    exact q.sc ok (.int _) (fun _ z => by cases z)
  · rename_i m ds hm
    split at h
    · rename_i hg
      simp only [Bool.and_eq_true, decide_eq_true_eq] at hg
      obtain ⟨⟨h1, h2⟩, h3⟩ := hg
      obtain ⟨w, rfl, a, vs, rfl, hs, hl, hr⟩ := hx.one
      obtain ⟨z1, z2⟩ := least_fold (alikes_iff h1) h
      refine .inr (.inr ⟨a, vs, m, ds, z, rfl, SqL.of hs, (Reps.dp _ _ hr).1, h1, h2, h, fun i v hv hz => ?_⟩)
      obtain ⟨v', k1, k2⟩ := hr.get hz
      rw [hv] at k1
      cases k1
      refine q.sc ok k2 fun es e => ?_
      have k3 := alikes_iff h1 m List.mem_cons_self z z1
      subst e
      cases m <;> first | (cases h3; done) | (simp [likeD] at k3)
    · cases h
  · rename_i m ds hm
    split at h
    · rename_i hg
      simp only [Bool.and_eq_true, decide_eq_true_eq] at hg
      obtain ⟨⟨h1, h2⟩, h3⟩ := hg
      obtain ⟨w, rfl, a, vs, rfl, hs, hl, hr⟩ := hx.one
      obtain ⟨z1, z2⟩ := most_fold (alikes_iff h1) h
      refine .inr (.inr ⟨a, vs, m, ds, z, rfl, SqL.of hs, (Reps.dp _ _ hr).1, h1, h2, h, fun i v hv hz => ?_⟩)
      obtain ⟨v', k1, k2⟩ := hr.get hz
      rw [hv] at k1
      cases k1
      refine q.sc ok k2 fun es e => ?_
      have k3 := alikes_iff h1 m List.mem_cons_self z z1
      subst e
      cases m <;> first | (cases h3; done) | (simp [likeD] at k3)
    · cases h
  · rename_i ds
    split at h
    · rename_i hg
      simp only [Bool.and_eq_true, decide_eq_true_eq] at hg
      obtain ⟨⟨h1, h2⟩, h3⟩ := hg
      rw [Option.map_eq_some_iff] at h
      obtain ⟨es, he, rfl⟩ := h
      obtain ⟨w, rfl, a, vs, rfl, hs, hl, hr⟩ := hx.one
      refine .inl ⟨a, vs, ds, es, rfl, SqL.of hs, (Reps.dp _ _ hr).1, h1, h2, h3, he, fun p ws T hp hT e1 e2 => ?_⟩
      have rep : ∀ t ∈ T, Rep c.K (live g) g.H t.1 t.2 := fun t ht => hr.zip t (hT.mem_iff.mp ht)
      subst e1
      subst e2
      refine q p _ hp ?_ (Reps.maps rep)
      rw [List.length_map, hT.length_eq, List.length_zip]
      exact Nat.le_trans (Nat.min_le_left _ _) hl
    · cases h
  · cases h
/-! ### methods by values -/
def mtTy : Mt → String
  | .append => "list" | .extend => "list" | .pop => "list" | .pop0 => "list" | .lidx => "list" | .lcnt => "list" | .get => "dict"
  | .sidx => "str" | .join => "str" | .split => "str" | .replace => "str"
def rLidx (K : PySem.W.Frag) : V → List V → Hp → VK → Prop := fun x xs H Q => ∃ (y : V) (d : PyData) (ds : List PyData) (j : Nat), xs = [y] ∧ Dp K H x (.list ds) ∧ Dp K H y d ∧ PyData.canLayAll0 ds = true ∧ d.canLay0 = true ∧ d.depth ≤ 64 ∧
  (ds.findIdx? fun z => PyData.eqv z d) = some j ∧ Q (.int (j : Nat)) H
def rLcnt (K : PySem.W.Frag) : V → List V → Hp → VK → Prop := fun x xs H Q => ∃ (y : V) (d : PyData) (ds : List PyData), xs = [y] ∧ Dp K H x (.list ds) ∧ Dp K H y d ∧ PyData.canLayAll0 ds = true ∧ d.canLay0 = true ∧ d.depth ≤ 64 ∧
  Q (.int ((ds.countP fun z => PyData.eqv z d) : Nat)) H
section
variable {X : Cx}
theorem mt_lidxA (hu : X.A.units + 200 < cLine) : MtR X "list.index" (rLidx X.K) := by
  intro pins s σ H x xs v us Q I rx rxs h
  obtain ⟨y, d, ds, j, rfl, hl, hy, hxs, hd, hm, hj, q⟩ := h
  cases rxs with
  | cons ry rt =>
    rename_i uy ut
    cases rt
    obtain ⟨bs, r1⟩ := Dp.reads I d y uy hy ry
    cases hl with
    | lst hs ha =>
      cases rx
      obtain ⟨its, rv, ⟨⟨cls, dd, data, sls⟩, n, ho, hc, hdn, hdt⟩, hlen⟩ := I.list hs
      simp only at hc hdt
      subst hc hdt
      obtain ⟨as, h4⟩ := Dp.readsAll I ds _ its ha rv
      have hn : its.length = ds.length := SeqAt.ReadsAll.length ds its as h4
      have hmap : its.map (SeqAt.readOf s.heap) = ds := SeqAt.readsAll_map ds its as hxs h4
      have hvl := rv.length
      have hsl := sizeLine_eq
      rw [← hmap, List.findIdx?_map] at hj
      obtain ⟨hjl, hj1, hj2⟩ := List.findIdx?_eq_some_iff_getElem.mp hj
      have hj' : j < its.toArray.size := by simpa using hjl
      refine call_meets PySem.F.slot_list_index ⟨_, ho, rfl⟩ PySem.F.entry_list_index (PySem.F.args_list_index_2 _ _)
        (SeqAt.list_indexAt _ its.toArray n dd sls uy (fun u => PyData.eqv (SeqAt.readOf s.heap u) d) j hj' (by omega) ?_ ?_) ⟨ho, SeqAt.items_eqAt (vs := its.toArray) (show ReadsAll s.heap its.toArray.toList ds as from h4) r1 hxs hd (by omega), ⟨.int (j : Nat), H, I.tok _, ⟨_, rfl⟩, q⟩⟩
      · simpa using hj1
      · intro m hm' hmj
        have := hj2 m hmj
        simpa using this
theorem mt_lcntA (hu : X.A.units + 200 < cLine) : MtR X "list.count" (rLcnt X.K) := by
  intro pins s σ H x xs v us Q I rx rxs h
  obtain ⟨y, d, ds, rfl, hl, hy, hxs, hd, hm, q⟩ := h
  cases rxs with
  | cons ry rt =>
    rename_i uy ut
    cases rt
    obtain ⟨bs, r1⟩ := Dp.reads I d y uy hy ry
    cases hl with
    | lst hs ha =>
      cases rx
      obtain ⟨its, rv, ⟨⟨cls, dd, data, sls⟩, n, ho, hc, hdn, hdt⟩, hlen⟩ := I.list hs
      simp only at hc hdt
      subst hc hdt
      obtain ⟨as, h4⟩ := Dp.readsAll I ds _ its ha rv
      have hmap : its.map (SeqAt.readOf s.heap) = ds := SeqAt.readsAll_map ds its as hxs h4
      refine call_meets PySem.F.slot_list_count ⟨_, ho, rfl⟩ PySem.F.entry_list_count (PySem.F.args_list_count_2 _ _)
        (SeqAt.list_countAt _ its.toArray n dd sls uy (fun u => PyData.eqv (SeqAt.readOf s.heap u) d)) ⟨ho, SeqAt.items_eqAt (vs := its.toArray) (show ReadsAll s.heap its.toArray.toList ds as from h4) r1 hxs hd (by omega), ?_⟩
      have ec : its.toArray.toList.countP (fun u => PyData.eqv (SeqAt.readOf s.heap u) d) = ds.countP fun z => PyData.eqv z d := by
        rw [← hmap, List.countP_map]
        rfl
      refine ⟨.int _, H, I.tok _, ⟨s.toks, ?_⟩, q⟩
      show Value.int ((its.toArray.toList.countP (fun u => PyData.eqv (SeqAt.readOf s.heap u) d) : Nat) : Int) s.toks = _
      rw [ec]
def rMt (K : PySem.W.Frag) : Mt → V → List V → Hp → VK → Prop
  | .append => rAppend
  | .extend => rExtend
  | .pop => rPop
  | .pop0 => rPopAt
  | .lidx => rLidx K
  | .lcnt => rLcnt K
  | .sidx => fun x xs H Q => ∃ a b i rest, x = .str a ∧ xs = [.str b] ∧ Builtin.Str.occurrences a b 0 a.length 1 = i :: rest ∧ Q (.int (i : Nat)) H
  | .join => fun x xs H Q => ∃ a p, ∃ ys : List Str, x = .str a ∧ xs = [.ref p] ∧ (SqL K H p (ys.map V.str) ∨ SqT K H p (ys.map V.str)) ∧ (ys.map (·.length)).sum + ys.length * a.length ≤ 16777216 ∧ Q (.str (PySem.Txt.join a ys)) H
  | .get => fun x xs H Q => ∃ a y z o, x = .ref a ∧ xs = [y, z] ∧ DGet H a y o ∧ Q (o.getD z) H
  | _ => fun _ _ _ _ => False
/-- names and slots of the methods -/
structure MtF (m : Mt) (name : Str) where
  id : String
  pa : PlainAttrs (mtTy m)
  slot : Slot (mtTy m) name id
  ty : typeOf (.builtin id) = pure (.type "method_descriptor")
def mtName : Mt → String
  | .append => "append" | .extend => "extend" | .pop => "pop" | .pop0 => "pop" | .lidx => "index" | .lcnt => "count" | .get => "get"
  | .sidx => "index" | .join => "join" | .split => "split" | .replace => "replace"
theorem mt_get2 (hu : X.A.units + 200 < cLine) : MtR X "dict.get" (fun x xs H Q => ∃ a y z o, x = .ref a ∧ xs = [y, z] ∧ DGet H a y o ∧ Q (o.getD z) H) := by
  intro pins s σ H x xs v us Q I rx rxs h
  obtain ⟨a, y, z, o, rfl, rfl, dg, q⟩ := h
  cases rx
  cases rxs with
  | cons ry rt =>
    cases rt with
    | cons rz rt =>
      cases rt
      exact d_get2 (by omega) I dg ry rz fun w' s' I' rw' => ⟨_, H, I', rw', q⟩
theorem mtr (hu : X.A.units + 200 < cLine) : ∀ m : Mt, ∃ id, PlainAttrs (mtTy m) ∧ Slot (mtTy m) (mtName m) id ∧ typeOf (.builtin id) = pure (.type "method_descriptor") ∧ MtR X id (rMt X.K m)
  | .append => ⟨_, PySem.F.plainAttrs_list, PySem.F.slot_list_append, PySem.F.type_list_append, mt_append⟩
  | .pop => ⟨_, PySem.F.plainAttrs_list, PySem.F.slot_list_pop, PySem.F.type_list_pop, mt_pop⟩
  | .pop0 => ⟨_, PySem.F.plainAttrs_list, PySem.F.slot_list_pop, PySem.F.type_list_pop, mt_popAt⟩
  | .lidx => ⟨_, PySem.F.plainAttrs_list, PySem.F.slot_list_index, PySem.F.type_list_index, mt_lidxA hu⟩
  | .lcnt => ⟨_, PySem.F.plainAttrs_list, PySem.F.slot_list_count, PySem.F.type_list_count, mt_lcntA hu⟩
  | .extend => ⟨_, PySem.F.plainAttrs_list, PySem.F.slot_list_extend, PySem.F.type_list_extend, mt_extend⟩
  | .get => ⟨_, PySem.F.plainAttrs_dict, PySem.F.slot_dict_get, PySem.F.type_dict_get, mt_get2 hu⟩
  | .sidx => ⟨_, PySem.F.plainAttrs_str, PySem.F.slot_str_index, PySem.F.type_str_index, mt_sindex⟩
  | .join => ⟨_, PySem.F.plainAttrs_str, PySem.F.slot_str_join, PySem.F.type_str_join, mt_join⟩
  | .split => ⟨_, PySem.F.plainAttrs_str, PySem.F.slot_str_split, PySem.F.type_str_split, fun _ _ _ _ _ _ _ _ _ _ _ _ q => q.elim⟩
  | .replace => ⟨_, PySem.F.plainAttrs_str, PySem.F.slot_str_replace, PySem.F.type_str_replace, fun _ _ _ _ _ _ _ _ _ _ _ _ q => q.elim⟩
end
theorem strsOf_rep {K : PySem.W.Frag} {L : Addr → Prop} {H : Hp} : ∀ {ds : List D} {ss : List (List Nat)} {vs : List V}, strsOf ds = some ss → Reps K L H ds vs → vs = (ss.map SS).map V.str ∧ ∀ s ∈ ss, okS s
  | [], bs, vs, h, r => by cases h; cases r; exact ⟨rfl, by simp⟩
  | d :: ds, bs, vs, h, r => by
    cases r with
    | cons r1 r2 =>
      cases d with
      | str i =>
        cases e : strsOf ds with
        | none => rw [strsOf, e] at h; cases h
        | some ms =>
          rw [strsOf, e] at h; cases h
          cases r1 with
          | str o =>
            obtain ⟨h1, h2⟩ := strsOf_rep e r2
            refine ⟨by rw [h1]; rfl, fun s hs => ?_⟩
            rcases List.mem_cons.mp hs with rfl | hs
            · exact o
            · exact h2 s hs
      | _ => cases h
theorem SS_eq {x y : Str} (h : x.cps.toList = y.cps.toList) : x = y := by
  cases x; cases y; congr 1; exact Array.ext' h
theorem joinS_eq (sep : List Nat) : ∀ ss : List (List Nat), joinS sep ss = TL.joinL sep ss
  | [] => rfl
  | [_] => rfl
  | x :: y :: r => by rw [joinS, TL.joinL, joinS_eq sep (y :: r)]
theorem join_SS (sep : List Nat) (ss : List (List Nat)) : PySem.Txt.join (SS sep) (ss.map SS) = SS (joinS sep ss) := by
  apply SS_eq
  rw [TL.join_eq]
  show TL.tl (Str.join (SS sep) (ss.map SS)) = joinS sep ss
  rw [TL.tl_join, joinS_eq]
  congr 1
  rw [List.map_map]
  exact List.map_id'' (fun _ => rfl) ss
theorem okS_join {sep : List Nat} (hs : okS sep) : ∀ {ss : List (List Nat)}, (∀ s ∈ ss, okS s) → okS (joinS sep ss)
  | [], _ => by simp [joinS, okS]
  | [x], h => h x List.mem_cons_self
  | x :: y :: r, h => by
    rw [joinS]
    exact okS_app (h x List.mem_cons_self) (okS_app hs (okS_join hs fun s z => h s (List.mem_cons_of_mem _ z)))
theorem isTy_tyV {c : Glb} {g : G} {m : Mt} {v : Vl} {w : V} (ok : GOk c g) (r : RepV c g v w) (h : isTy (mtTyp m) v g.S = some true) : tyV c.K (mtTy m) w g.H := by
  cases r with
  | @d x _ r =>
    cases r with
    | str o => cases m <;> first | rfl | cases h
    | @lst a ds vs hs hn hl hr => cases m <;> first | exact .inl ⟨rfl, _, SqL.of hs⟩ | cases h
    | _ => cases m <;> cases h
  | @ref n a e =>
    have h : (match (g.S : List Cell)[n]? with | some (.lst _) => some (decide (mtTyp m = .lst)) | some (.fzn _) => some (decide (mtTyp m = .lst)) | some (.dic _) => some (decide (mtTyp m = .dic)) | some (.fzd _) => none | some (.dit _) => some (decide (mtTyp m = .dic)) | none => none) = some true := h
    split at h
    · rename_i ds hs
      obtain ⟨vs, h1, _⟩ := ok.cell _ _ _ e hs
      cases m <;> first | exact .inl ⟨rfl, _, SqL.of h1⟩ | (exact absurd h (by decide))
    · rename_i ds hs
      have q := ok.cell _ _ _ e hs
      cases q with
      | lst h1 _ _ _ => cases m <;> first | exact .inl ⟨rfl, _, SqL.of h1⟩ | (exact absurd h (by decide))
    · rename_i ds hs
      obtain ⟨vs, h1, _⟩ := ok.cell _ _ _ e hs
      cases m <;> first | exact .inr (.inr (.inl ⟨rfl, .inl ⟨_, h1⟩⟩)) | (exact absurd h (by decide))
    · cases h
    · rename_i ds hs
      obtain ⟨vs, h1, _⟩ := ok.cell _ _ _ e hs
      cases m <;> first | exact .inr (.inr (.inl ⟨rfl, .inr ⟨_, h1⟩⟩)) | (exact absurd h (by decide))
    · cases h
  | fnv e => cases m <;> cases h
  | exn e => cases m <;> cases h
  | clo => cases m <;> cases h
  | scr => cases m <;> cases h
theorem mtApp_ok {c : Glb} {g : G} {v : Vl} {vs : List Vl} {w : V} {ws : List V} {W : WX} {σ : L2.St} {Q : VK} (ok : GOk c g) (r : RepV c g v w) (rs : RepVs c g vs ws) (out : Out c g W σ (mtApp v vs g.S) (fun v g' => ∀ w, RepV c g' v w → Q w g'.H)) : rAppend w ws g.H Q := by
  cases r with
  | @ref n a e =>
    cases rs with
    | nil => exact out.elim
    | cons r1 rt =>
      cases rt with
      | cons => exact out.elim
      | nil =>
        rename_i v1 w1
        obtain ⟨⟨x, S2⟩, hp, q⟩ := Out.opt out
        obtain ⟨ok2, le2, r2⟩ := take_ok ok r1 hp
        have q : Out c g W σ (match (S2 : List Cell)[n]? with
          | some (.lst ds) => if ds.length < lim then .ok (.d .non) (S2.set n (.lst (ds ++ [x]))) else .stuck
          | _ => .stuck) (fun v g' => ∀ w, RepV c g' v w → Q w g'.H) := q
        split at q
        · rename_i ds hs
          split at q
          · rename_i hl
            obtain ⟨ws', h1, hl', hr⟩ := ok2.cell n a _ e hs
            refine ⟨a, ws', _, rfl, rfl, h1, by rw [← hr.length, ← lim_eq]; exact hl, ?_⟩
            have hr2 : Reps c.K (live { g with S := S2 }) g.H (ds ++ [x]) (ws' ++ [w1]) := hr.app (.cons r2 .nil)
            have hl2 : (ds ++ [x]).length ≤ lim := by rw [List.length_append]; exact hl
            have ok3 := gok_set (g := { g with S := S2 }) ok2 e hs rfl hl2 hr2
            have le3 := le_set (g := { g with S := S2 }) (x := .lst (ds ++ [x])) (o := .lst (ws' ++ [w1])) ok2 e hs rfl
            exact q _ _ ok3 (le2.trans le3) _ (.d .non)
          · exact q.elim
        · exact q.elim
  | _ => exact out.elim
theorem mtExt_ok {c : Glb} {g : G} {v : Vl} {vs : List Vl} {w : V} {ws : List V} {W : WX} {σ : L2.St} {Q : VK} (ok : GOk c g) (r : RepV c g v w) (rs : RepVs c g vs ws) (out : Out c g W σ (mtExt v vs g.S) (fun v g' => ∀ w, RepV c g' v w → Q w g'.H)) : rExtend w ws g.H Q := by
  cases r with
  | @ref n a e =>
    cases rs with
    | nil => exact out.elim
    | cons r1 rt =>
      cases rt with
      | cons => exact out.elim
      | nil =>
        rename_i v1 w1
        have q : Out c g W σ (match (g.S : List Cell)[n]?, peek g.S v1 with
          | some (.lst ds), some (.lst zs) => if ds.length + zs.length ≤ lim then .ok (.d .non) (g.S.set n (.lst (ds ++ zs))) else .stuck
          | _, _ => .stuck) (fun v g' => ∀ w, RepV c g' v w → Q w g'.H) := out
        split at q
        · rename_i ds zs hs hz
          split at q
          · rename_i hl
            obtain ⟨us, h1, hl', hr⟩ := ok.cell n a _ e hs
            obtain ⟨b, ys, rfl, h2, hl2, hr2⟩ := peek_ok ok r1 hz
            refine ⟨a, b, us, ys, rfl, rfl, h1, h2, by rw [← hr.length, ← hr2.length, ← lim_eq]; exact hl, ?_⟩
            have ok3 := gok_set ok e hs rfl (by rw [List.length_append]; exact hl) (hr.app hr2)
            have le3 := le_set (x := .lst (ds ++ zs)) (o := .lst (us ++ ys)) ok e hs rfl
            exact q _ _ ok3 le3 _ (.d .non)
          · exact q.elim
        · exact q.elim
  | _ => exact out.elim
theorem mtPop_ok {c : Glb} {g : G} {v : Vl} {vs : List Vl} {w : V} {ws : List V} {W : WX} {σ : L2.St} {Q : VK} (ok : GOk c g) (r : RepV c g v w) (rs : RepVs c g vs ws) (out : Out c g W σ (mtPop v vs g.S) (fun v g' => ∀ w, RepV c g' v w → Q w g'.H)) : rPop w ws g.H Q := by
  cases r with
  | @ref n a e =>
    cases rs with
    | cons r1 rt => exact out.elim
    | nil =>
      have q : Out c g W σ (match (g.S : List Cell)[n]? with
        | some (.lst ds) => match ds[ds.length - 1]? with
          | some x => R.ok (.d x) (g.S.set n (.lst ds.dropLast))
          | none => .stuck
        | _ => .stuck) (fun v g' => ∀ w, RepV c g' v w → Q w g'.H) := out
      split at q
      · rename_i ds hs
        split at q
        · rename_i x hx
          obtain ⟨vs, h1, hl', hr⟩ := ok.cell n a _ e hs
          obtain ⟨y, hy, ry⟩ := hr.get hx
          refine ⟨a, vs, y, rfl, rfl, h1, by rw [← hr.length]; exact hy, ?_⟩
          have hr2 : Reps c.K (live g) g.H ds.dropLast vs.dropLast := by rw [List.dropLast_eq_take, List.dropLast_eq_take, hr.length]; exact hr.take _
          have hl2 : ds.dropLast.length ≤ lim := Nat.le_trans (by rw [List.length_dropLast]; omega) hl'
          have ok3 := gok_set ok e hs rfl hl2 hr2
          have le3 := le_set (x := .lst ds.dropLast) (o := .lst vs.dropLast) ok e hs rfl
          exact q _ _ ok3 le3 _ (.d (ry.le ok le3))
        · exact q.elim
      · exact q.elim
  | _ => exact out.elim
theorem mtPop0_ok {c : Glb} {g : G} {v : Vl} {vs : List Vl} {w : V} {ws : List V} {W : WX} {σ : L2.St} {Q : VK} (ok : GOk c g) (r : RepV c g v w) (rs : RepVs c g vs ws) (out : Out c g W σ (mtPop0 v vs g.S) (fun v g' => ∀ w, RepV c g' v w → Q w g'.H)) : rPopAt w ws g.H Q := by
  cases r with
  | @ref n a e =>
    cases rs with
    | nil => exact out.elim
    | cons r1 rt =>
      cases rt with
      | cons => cases r1 with
        | d r1 => cases r1 <;> exact out.elim
        | _ => exact out.elim
      | nil =>
        cases r1 with
        | d r1 =>
          cases r1 with
          | int i =>
            have q : Out c g W σ (match (g.S : List Cell)[n]? with
              | some (.lst ds) => if i = 0 then match ds with
                | x :: r => R.ok (.d x) (g.S.set n (.lst r))
                | [] => .stuck
                else .stuck
              | _ => .stuck) (fun v g' => ∀ w, RepV c g' v w → Q w g'.H) := out
            split at q
            · rename_i ds hs
              split at q
              · rename_i hi
                cases ds with
                | nil => exact q.elim
                | cons x xs =>
                  obtain ⟨vs, h1, hl', hr⟩ := ok.cell n a _ e hs
                  cases hr with
                  | @cons _ y _ ys ry rys =>
                    subst hi
                    refine ⟨a, y :: ys, 0, 0, y, rfl, rfl, h1, by decide, by decide, ?_, rfl, ?_⟩
                    · simp [seqIndex?]
                    · have hl2 : xs.length ≤ lim := Nat.le_trans (Nat.le_succ _) hl'
                      have ok3 := gok_set ok e hs rfl hl2 rys
                      have le3 := le_set (x := .lst xs) (o := .lst ys) ok e hs rfl
                      exact q _ _ ok3 le3 _ (.d (ry.le ok le3))
              · exact q.elim
            · exact q.elim
          | _ => exact out.elim
        | _ => exact out.elim
  | _ => exact out.elim
theorem occ_a : Builtin.Str.occurrences (SS [97, 98]) (SS [97]) 0 (SS [97, 98]).length 1 = [0] := by decide +kernel
theorem occ_b : Builtin.Str.occurrences (SS [97, 98]) (SS [98]) 0 (SS [97, 98]).length 1 = [1] := by decide +kernel
theorem mtD_ok {c : Glb} {g : G} {m : Mt} {x z : D} {xs : List D} {w : V} {ws : List V} {Q : VK} (hx : Pk c g x w) (hxs : Pks c g xs ws) (h : mtD m x xs = some z) (q : ∀ u, Rep c.K (live g) g.H z u → Q u g.H) : rMt c.K m w ws g.H Q := by
  unfold mtD at h
  split at h
  · rw [Option.bind_eq_some_iff] at h
    obtain ⟨ss, h1, h2⟩ := h
    split at h2
    · rename_i hl
      cases h2
      obtain ⟨w, rfl, a, vs, rfl, hs, hl', hr⟩ := hxs.one
      cases hx with
      | str o =>
        obtain ⟨e, os⟩ := strsOf_rep h1 hr
        rw [e] at hs
        refine ⟨_, a, ss.map SS, rfl, rfl, .inl (SqL.of hs), ?_, ?_⟩
        · rw [List.map_map, List.length_map, SS_length]
          have e2 : ss.map ((fun x => x.length) ∘ SS) = ss.map List.length := List.map_congr_left fun s _ => SS_length s
          rw [e2]
          exact hl
        · rw [join_SS]
          exact q _ (.str (okS_join o os))
    · cases h2
  · split at h
    · rename_i hd
      rw [Option.map_eq_some_iff] at h
      obtain ⟨k, h1, rfl⟩ := h
      obtain ⟨w2, rfl, hy⟩ := hxs.one
      obtain ⟨a1, a2⟩ := hx.dp
      obtain ⟨b1, b2⟩ := hy.dp
      refine ⟨_, _, _, k, rfl, a1, b1, by simpa [toPy, PyData.canLay0] using a2, b2, by rw [depth_toPy]; omega, ?_, q _ (.int _)⟩
      rw [toPys_map, List.findIdx?_map]
      rw [← h1]
      congr 1
      funext y
      exact eqv_toPy y _
    · cases h
  · split at h
    · rename_i hd
      cases h
      obtain ⟨w2, rfl, hy⟩ := hxs.one
      obtain ⟨a1, a2⟩ := hx.dp
      obtain ⟨b1, b2⟩ := hy.dp
      refine ⟨_, _, _, rfl, a1, b1, by simpa [toPy, PyData.canLay0] using a2, b2, by rw [depth_toPy]; omega, ?_⟩
      rename_i ds x
      have e : ((toPys ds).countP fun z => PyData.eqv z (toPy x)) = ds.countP fun y => eqD y x := by
        rw [toPys_map, List.countP_map]
        congr 1
        funext y
        exact eqv_toPy y _
      rw [e]
      exact q _ (.int _)
    · cases h
  · split at h
    · rename_i hs
      subst hs
      obtain ⟨w2, rfl, hy⟩ := hxs.one
      cases hx
      cases hy
      split at h
      · rename_i hc
        cases h
        subst hc
        exact ⟨_, _, 0, [], rfl, rfl, occ_a, q _ (.int _)⟩
      · split at h
        · rename_i hc
          cases h
          subst hc
          exact ⟨_, _, 1, [], rfl, rfl, occ_b, q _ (.int _)⟩
        · cases h
    · cases h
  · cases h
theorem mtPure_ok {c : Glb} {g : G} {m : Mt} {v : Vl} {vs : List Vl} {w : V} {ws : List V} {W : WX} {σ : L2.St} {Q : VK} (ok : GOk c g) (r : RepV c g v w) (rs : RepVs c g vs ws) (out : Out c g W σ (mtPure m v vs g.S) (fun v g' => ∀ w, RepV c g' v w → Q w g'.H)) : rMt c.K m w ws g.H Q := by
  unfold mtPure at out
  split at out
  · rename_i x xs h1 h2
    obtain ⟨z, hz, q⟩ := Out.opt out
    exact mtD_ok (peek_ok ok r h1) (peeks_ok ok rs h2) hz fun u ru => (Out.here q ok) u (.d ru)
  · exact out.elim
theorem mtGet_ok {c : Glb} {g : G} {v : Vl} {vs : List Vl} {w : V} {ws : List V} {W : WX} {σ : L2.St} {Q : VK} (ok : GOk c g) (r : RepV c g v w) (rs : RepVs c g vs ws) (out : Out c g W σ (mtGet v vs g.S) (fun v g' => ∀ w, RepV c g' v w → Q w g'.H)) : rMt c.K .get w ws g.H Q := by
  unfold mtGet at out
  split at out
  · rename_i kvs k x hd
    obtain ⟨y, hy, q⟩ := Out.opt out
    obtain ⟨n, a, us, rfl, rfl, e1, e2, e3, e4, e5⟩ := dicOf_ok ok r hd
    cases rs with
    | cons r1 rt =>
      cases rt with
      | cons r2 rt =>
        cases rt
        cases r1 with
        | d r1 =>
          cases r2 with
          | d r2 =>
            obtain ⟨rfl, o2⟩ := kyOf_rep r1 hy
            refine ⟨a, _, _, valV us (toK y), rfl, rfl, .inl ⟨_, _, e3, rfl, rfl⟩, ?_⟩
            rcases e5.val y with ⟨q1, q2⟩ | ⟨x', w', q1, q2, q3⟩
            · rw [q2]; rw [q1] at q; exact (Out.here q ok) _ (.d r2)
            · rw [q2]; rw [q1] at q; exact (Out.here q ok) _ (.d q3)
  · exact out.elim
theorem mt_ok {c : Glb} {g : G} {m : Mt} {v : Vl} {vs : List Vl} {w : V} {ws : List V} {W : WX} {σ : L2.St} {Q : VK} (ok : GOk c g) (r : RepV c g v w) (rs : RepVs c g vs ws) (out : Out c g W σ (mtV m v vs g.S) (fun v g' => ∀ w, RepV c g' v w → Q w g'.H)) : rMt c.K m w ws g.H Q := by
  cases m with
  | append => exact mtApp_ok ok r rs out
  | extend => exact mtExt_ok ok r rs out
  | pop => exact mtPop_ok ok r rs out
  | pop0 => exact mtPop0_ok ok r rs out
  | get => exact mtGet_ok ok r rs out
  | _ => exact mtPure_ok ok r rs out
section
variable {c : Glb} {U : EV.Env} {W : WX} {X : Cx} {e o : Expr} {l lo_ : LE} {es : List Expr} {ls : LEs} {pos apos cpos p : Pos}
theorem se_mt {m : Mt} (hK : X.K = c.K) (hu : X.A.units + 200 < cLine) (ho : PE X o (tEv c U W lo_)) (hs : PA X (e :: es) (tEvs c U W ls)) (hb : baseX o = true) (hp : (e :: es).all plainX = true) (hl : (e :: es).length < 20) (hline : (apos.endLine == cpos.line) = true) :
    PE X (.Call (.Attribute o (mtName m) apos) (e :: es) [] cpos) (tEv c U W (.mt m lo_ ls)) := by
  obtain ⟨id, pa, slot, ty, mr⟩ := mtr (X := X) hu m
  have hp2 := hp
  rw [List.all_cons, Bool.and_eq_true] at hp2
  refine PE.imp (pe_bm pa slot ty mr ho hs (base_ok hb _) (few_ok hp hl) hline (star_cons hp2.1) (star_any hp2.2 _)) fun σ H Q => ?_
  rintro ⟨g, loc, rfl, ok, lo, out⟩
  refine ⟨g, loc, rfl, ok, lo, (Out.bind out).imp fun v g1 ⟨le1, ok1, out1⟩ w rw1 => ?_⟩
  split at out1
  · rename_i ht
    rw [hK]
    refine ⟨isTy_tyV ok1 rw1 ht, g1, loc, rfl, ok1, lo.le ok le1, (Out.bind out1).imp fun vs g2 ⟨le2, ok2, out2⟩ ws rws => ?_⟩
    exact mt_ok ok2 (rw1.le ok1 le2) rws out2
  · exact out1.elim
theorem se_mt0 {m : Mt} (hK : X.K = c.K) (hu : X.A.units + 200 < cLine) (ho : PE X o (tEv c U W lo_)) (hb : baseX o = true) (hline : (apos.endLine == cpos.line) = true) :
    PE X (.Call (.Attribute o (mtName m) apos) [] [] cpos) (tEv c U W (.mt m lo_ .nil)) := by
  obtain ⟨id, pa, slot, ty, mr⟩ := mtr (X := X) hu m
  refine PE.imp (pe_bm0 pa slot ty mr ho (base_ok hb _) hline) fun σ H Q => ?_
  rintro ⟨g, loc, rfl, ok, lo, out⟩
  refine ⟨g, loc, rfl, ok, lo, (Out.bind out).imp fun v g1 ⟨le1, ok1, out1⟩ w rw1 => ?_⟩
  split at out1
  · rename_i ht
    rw [hK]
    refine ⟨isTy_tyV ok1 rw1 ht, ?_⟩
    simp only [evEs, R.bind_ok] at out1
    exact mt_ok ok1 rw1 .nil out1
  · exact out1.elim
theorem pe_callX {b : Bi} (hc : X.calm = true) (hu : X.A.units + 200 < cLine) (hgd : X.A.guards = some []) (hK : X.K = c.K) (hg : Gl X (biName b)) (hm : X.mg (biName b) = none) (hp : (e :: es).all plainX = true) (hs : PA X (e :: es) (tEvs c U W ls)) :
    PE X (.Call (.Name (biName b) p) (e :: es) [] pos) (tCB (rBi X.K b) (tEvs c U W ls)) := by
  rw [List.all_cons, Bool.and_eq_true] at hp
  have h := bir (X := X) hc hu hgd b
  cases b with
  | len => exact pe_callB h hg hm PySem.boot_len hs (by decide) (by decide) (star_cons hp.1) (star_any hp.2 _)
  | abs => exact pe_callB h hg hm (by decide +kernel) hs (by decide) (by decide) (star_cons hp.1) (star_any hp.2 _)
  | sorted => exact pe_callB h hg hm (by decide +kernel) hs (by decide) (by decide) (star_cons hp.1) (star_any hp.2 _)
  | all => exact pe_callB h hg hm (by decide +kernel) hs (by decide) (by decide) (star_cons hp.1) (star_any hp.2 _)
  | any => exact pe_callB h hg hm (by decide +kernel) hs (by decide) (by decide) (star_cons hp.1) (star_any hp.2 _)
  | min => exact pe_callB h hg hm (by decide +kernel) hs (by decide) (by decide) (star_cons hp.1) (star_any hp.2 _)
  | max => exact pe_callB h hg hm (by decide +kernel) hs (by decide) (by decide) (star_cons hp.1) (star_any hp.2 _)
  | sum => exact pe_callB h hg hm (by decide +kernel) hs (by decide) (by decide) (star_cons hp.1) (star_any hp.2 _)
  | repr => exact pe_callB h hg hm (by decide +kernel) hs (by decide) (by decide) (star_cons hp.1) (star_any hp.2 _)
  | int => exact pe_callTy h hg hm (by decide +kernel) hs (by decide) (by decide) (star_cons hp.1) (star_any hp.2 _)
  | str => exact pe_callTy h hg hm (by decide +kernel) hs (by decide) (by decide) (star_cons hp.1) (star_any hp.2 _)
  | tup => exact pe_callTy h hg hm (by decide +kernel) hs (by decide) (by decide) (star_cons hp.1) (star_any hp.2 _)
  | lst => exact pe_callTy h hg hm (by decide +kernel) hs (by decide) (by decide) (star_cons hp.1) (star_any hp.2 _)
theorem keysI_rep {K : PySem.W.Frag} {L : Addr → Prop} {H : Hp} : ∀ {kvs : List (Ky × D)} {vs : List (Key × V)} {is : List Int}, keysI kvs = some is → RepKs K L H kvs vs → vs.map (·.1) = is.map Sum.inl
  | [], vs, is, h, r => by cases h; cases r; rfl
  | (k, d) :: ks, vs, is, h, r => by
    cases r with
    | cons o r t =>
      cases k with
      | i j =>
        cases e : keysI ks with
        | none => rw [keysI, e] at h; cases h
        | some js =>
          rw [keysI, e] at h
          cases h
          rw [List.map_cons, List.map_cons, keysI_rep e t]
          rfl
      | s x => cases h
theorem ints_reps {K : PySem.W.Frag} {L : Addr → Prop} {H : Hp} : ∀ is : List Int, Reps K L H (is.map D.int) (is.map V.int)
  | [] => .nil
  | i :: is => .cons (.int i) (ints_reps is)
theorem biW_ok {c : Glb} {g : G} {b : Bi} {vs : List Vl} {z : D} {ws : List V} {Q : VK} (ok : GOk c g) (r : RepVs c g vs ws) (h : biW b vs g.S = some z) (q : OutN c g z Q) : rBi c.K b ws g.H Q := by
  have gen : (peeks g.S vs).bind (fun xs => biD b xs) = some z → rBi c.K b ws g.H Q := fun h => by
    rw [Option.bind_eq_some_iff] at h
    obtain ⟨xs, h1, h2⟩ := h
    exact bi_ok ok (peeks_ok ok r h1) h2 q
  unfold biW at h
  split at h
  · split at h
    · rename_i v kvs hd
      cases r with
      | cons r1 r2 =>
        cases r2
        obtain ⟨n, a, us, rfl, rfl, e1, e2, e3, e4, e5⟩ := dicOf_ok ok r1 hd
        split at h
        · cases h
          exact .inr ⟨a, us, rfl, e3, fun p hp => q p _ hp (by rw [List.length_map]; exact e4) e5.keys⟩
        · cases h
          exact .inl (.inr ⟨a, us, rfl, e3, by rw [← e5.length]; exact q.sc ok (.int _) (fun _ z => by cases z)⟩)
        · rw [Option.bind_eq_some_iff] at h
          obtain ⟨is, h1, h2⟩ := h
          split at h2
          · rename_i h64
            cases h2
            refine .inr ⟨a, us, is, rfl, e3, keysI_rep h1 e5, h64, fun p hp => q p _ hp (by rw [List.length_map, (srtI_perm is).length_eq]; show is.length ≤ 16777216; omega) (ints_reps _)⟩
          · cases h2
        · cases h
    · exact gen h
  · exact gen h
theorem biV_ok {c : Glb} {g : G} {b : Bi} {vs : List Vl} {z : D} {ws : List V} {Q : VK} (ok : GOk c g) (r : RepVs c g vs ws) (h : biV b vs g.S = some z) (q : OutN c g z Q) : rBi c.K b ws g.H Q := by
  by_cases e : b = .repr
  · subst e
    replace h : rprV vs = some z := h
    unfold rprV at h
    split at h
    · cases h
    · rename_i x hx
      rw [Option.map_eq_some_iff] at h
      obtain ⟨t, ht, rfl⟩ := h
      cases r with
      | cons r1 r2 =>
        cases r2
        cases r1 with
        | d r => exact ⟨live g, x, _, t, rfl, r, fun z e => hx z (by rw [e]), ht, q.sc ok (.str (reprD_some ht).2.2.2.1) (fun _ z => by cases z)⟩
    · cases h
  · have h : biW b vs g.S = some z := by
      cases b <;> first | exact h | exact absurd rfl e
    exact biW_ok ok r h q
theorem se_bi {b : Bi} (hc : X.calm = true) (hu : X.A.units + 200 < cLine) (hgd : X.A.guards = some []) (hK : X.K = c.K) (hg : Gl X (biName b)) (hm : X.mg (biName b) = none) (hp : (e :: es).all plainX = true) (hs : PA X (e :: es) (tEvs c U W ls)) :
    PE X (.Call (.Name (biName b) p) (e :: es) [] pos) (tEvN c U W (.bi b ls)) := PE.imp (pe_callX hc hu hgd hK hg hm hp hs) fun σ H Q => by
  rintro ⟨g, loc, rfl, ok, lo, out⟩
  refine ⟨g, loc, rfl, ok, lo, (Out.bind out).imp fun vs g1 ⟨le1, ok1, out1⟩ ws rws => ?_⟩
  obtain ⟨z, h2, o2⟩ := Out.opt out1
  obtain ⟨z', e', q'⟩ := Out.here o2 ok1
  cases e'
  rw [hK]
  exact biV_ok ok1 rws h2 q'
end
end EV
end

section
set_option Elab.async false
set_option linter.all false
set_option maxRecDepth 100000
set_option maxHeartbeats 1000000
/-! EV9: isinstance, iterables, comprehensions -/
namespace EV
open PySem PySem.Spec PyProof.Rows L2
def tyName : Ty → String
  | .bool => "bool" | .int => "int" | .str => "str" | .tup => "tuple" | .lst => "list" | .dic => "dict"
theorem boot_ty : ∀ t : Ty, bootBuiltins (tyName t : Str) = some (.type (tyName t))
  | .bool => PyProof.Rows.boot_bool | .int => PyProof.Rows.boot_int | .str => PyProof.Rows.boot_str | .tup => PyProof.Rows.boot_tuple | .lst => PyProof.Rows.boot_list | .dic => PyProof.Rows.boot_dict
def kitRow (n : String) (t : Ty) : Bool := n == tyName t || (n == "bool" && t == .int)
theorem kitRow_ok (n : String) (h : n ∈ ["NoneType", "bool", "int", "str", "tuple", "list", "dict"]) (t : Ty) : kitB n (tyName t) = some (kitRow n t) := by
  simp only [List.mem_cons, List.not_mem_nil, or_false] at h
  rcases h with rfl | rfl | rfl | rfl | rfl | rfl | rfl <;> cases t <;> decide +kernel
theorem kitRow_at {K : PySem.W.Frag} (n : String) (t : Ty) (b : Bool) (h : n ∈ ["NoneType", "bool", "int", "str", "tuple", "list", "dict"]) (e : kitRow n t = b) : PySem.W.kitOne K (.type n) (.type (tyName t)) = some b := by
  rw [← e]
  exact kit_ty (kitRow_ok n h t)
theorem isTyD_kit {K : PySem.W.Frag} {L : Addr → Prop} {H : Hp} {t : Ty} {x : D} {w : V} (r : Rep K L H x w) : ∃ ty, TyX K H w ty ∧ PySem.W.kitOne K ty (.type (tyName t)) = some (isTyD t x) := by
  cases r with
  | non => exact ⟨_, .base .non, kitRow_at _ t _ (by decide) (by cases t <;> decide)⟩
  | bl b => exact ⟨_, .base (.bl b), kitRow_at _ t _ (by decide) (by cases t <;> rfl)⟩
  | int i => exact ⟨_, .base (.int i), kitRow_at _ t _ (by decide) (by cases t <;> rfl)⟩
  | str o => exact ⟨_, .base (.str _), kitRow_at _ t _ (by decide) (by cases t <;> rfl)⟩
  | @tup a ds vs hs hl hr =>
    have k : PySem.W.kitOne K (.type "tuple") (.type (tyName t)) = some (isTyD t (.tup ds)) := kitRow_at _ t _ (by decide) (by cases t <;> rfl)
    rcases hs with h | ⟨_, o, its, n, h1, h2, _⟩
    · exact ⟨_, .base (.tup h), k⟩
    · exact ⟨_, .kTuple h1 h2, k⟩
  | lst hs hn hl hr => exact ⟨_, .base (.lst hs), kitRow_at _ t _ (by decide) (by cases t <;> rfl)⟩
theorem isTy_kit {c : Glb} {g : G} {t : Ty} {v : Vl} {w : V} {b : Bool} (ok : GOk c g) (r : RepV c g v w) (h : isTy t v g.S = some b) : ∃ ty, TyX c.K g.H w ty ∧ PySem.W.kitOne c.K ty (.type (tyName t)) = some b := by
  cases r with
  | d r => cases h; exact isTyD_kit r
  | @ref n a e =>
    have h : (match (g.S : List Cell)[n]? with | some (.lst _) => some (decide (t = .lst)) | some (.fzn _) => some (decide (t = .lst)) | some (.dic _) => some (decide (t = .dic)) | some (.fzd _) => none | some (.dit _) => some (decide (t = .dic)) | none => none) = some b := h
    split at h
    · rename_i ds hs
      obtain ⟨vs, h1, _⟩ := ok.cell _ _ _ e hs
      cases h
      exact ⟨_, .base (.lst h1), kitRow_at _ t _ (by decide) (by cases t <;> decide)⟩
    · rename_i ds hs
      have q := ok.cell _ _ _ e hs
      cases h
      cases q with
      | lst h1 _ _ _ => exact ⟨_, .base (.lst h1), kitRow_at _ t _ (by decide) (by cases t <;> decide)⟩
    · rename_i ds hs
      obtain ⟨vs, h1, _⟩ := ok.cell _ _ _ e hs
      cases h
      exact ⟨_, .base (.dK h1), kitRow_at _ t _ (by decide) (by cases t <;> decide)⟩
    · cases h
    · rename_i ds hs
      obtain ⟨vs, h1, _⟩ := ok.cell _ _ _ e hs
      cases h
      exact ⟨_, .base (.dT h1), kitRow_at _ t _ (by decide) (by cases t <;> decide)⟩
    · cases h
  | fnv e => cases h
  | exn e => cases h
  | clo => cases h
  | scr => cases h
section
variable {c : Glb} {U : EV.Env} {W : WX} {X : Cx} {e o : Expr} {l lo_ : LE} {es : List Expr} {ls : LEs} {pos apos cpos p p2 : Pos}
theorem se_isi {t : Ty} (hK : X.K = c.K) (hg : Gl X "isinstance") (hm : X.mg "isinstance" = none) (hg2 : Gl X (tyName t)) (hm2 : X.mg (tyName t) = none) (hp : plainX e = true) (he : PE X e (tEv c U W l)) :
    PE X (.Call (.Name "isinstance" p) [e, .Name (tyName t) p2] [] pos) (tEv c U W (.isi l t)) := by
  have ht : PE X (.Name (tyName t) p2) (tC (.ty (tyName t))) := pe_bltn hg2 hm2 (boot_ty t) rfl (by cases t <;> decide) (by cases t <;> decide)
  have ha : PA X [e, .Name (tyName t) p2] (tCons (tEv c U W l) (tCons (tC (.ty (tyName t))) tNil)) := pa_cons he (pa_cons ht pa_nil) (star_cons hp)
  refine PE.imp (pe_callB call_isi hg hm (by decide +kernel) ha (by decide) (by decide) (star_cons hp) rfl) fun σ H Q => ?_
  rintro ⟨g, loc, rfl, ok, lo, out⟩
  refine ⟨g, loc, rfl, ok, lo, (Out.bind out).imp fun v g1 ⟨le1, ok1, out1⟩ w rw1 => ?_⟩
  obtain ⟨b, hb, q⟩ := Out.opt out1
  obtain ⟨ty, h1, h2⟩ := isTy_kit ok1 rw1 hb
  rw [hK]
  exact ⟨w, .ty (tyName t), ty, _, b, rfl, .ty _, h1, h2, (Out.here q ok1) _ (.d (.bl b))⟩
end
/-! ### what is walked -/
/-- from g on the iterator J gives what the source tells, while what is walked stands -/
def Walks (c : Glb) (g : G) (J : It) : Src → Prop
  | .items ds => ∀ g' : G, GOk c g' → Lw g g' → (∀ i x, ds[i]? = some x → J.go i g'.H ∧ ∀ w H', J.yld i g'.H w H' → GOk c { g' with H := H' } ∧ Le g' { g' with H := H' } ∧ Rep c.K (live g') H' x w) ∧ J.stop ds.length g'.H
  | .live n => ∀ (g' : G) (ds : List D), GOk c g' → Lw g g' → (g'.S : List Cell)[n]? = some (.lst ds) → (∀ i x, ds[i]? = some x → J.go i g'.H ∧ ∀ w H', J.yld i g'.H w H' → GOk c { g' with H := H' } ∧ Le g' { g' with H := H' } ∧ Rep c.K (live g') H' x w) ∧ (∀ i, ds.length ≤ i → J.stop i g'.H)
def tIv (c : Glb) (U : EV.Env) (W : WX) (l : LI) : TI := fun σ H R => ∃ (g : G) (loc : Loc), g.H = H ∧ GOk c g ∧ LocOk c g loc σ ∧ Out c g W σ (evI U l loc g.S) (fun src g' => ∀ J, Walks c g' J src → R J g'.H)
theorem PI.imp {X : Cx} {tg e : Expr} {t t' : TI} (h : PI X tg e t) (i : ∀ σ H R, t' σ H R → t σ H R) : PI X tg e t' := ⟨fun pins s σ H R I q => h.run pins s σ H R I (i _ _ _ q)⟩
theorem PI.or {X : Cx} {tg e : Expr} {t t' : TI} (h : PI X tg e t) (h' : PI X tg e t') : PI X tg e (fun σ H R => t σ H R ∨ t' σ H R) := ⟨fun pins s σ H R I q => q.elim (h.run pins s σ H R I) (h'.run pins s σ H R I)⟩
section
variable {c : Glb}
/-- the heap as it was -/
theorem same_state {g : G} (ok : GOk c g) : GOk c { g with H := g.H } ∧ Le g { g with H := g.H } := ⟨ok, Le.refl g⟩
theorem walks_list {g : G} {a : Addr} {ds : List D} {vs : List V} (h : ∀ g', GOk c g' → Lw g g' → SqL c.K g'.H a vs ∧ Reps c.K (live g') g'.H ds vs) : Walks c g (Itl c.K a) (.items ds) := fun g' ok le => by
  obtain ⟨hs, hr⟩ := h g' ok le
  refine ⟨fun i x hx => ?_, ⟨vs, hs, Nat.le_of_eq hr.length.symm⟩⟩
  obtain ⟨w, hw, rw1⟩ := hr.get hx
  refine ⟨⟨vs, w, hs, hw⟩, fun w' H' hy => ?_⟩
  obtain ⟨rfl, hy⟩ := hy
  have e := hy vs hs
  rw [hw] at e
  cases e
  exact ⟨ok, Le.refl g', rw1⟩
theorem walks_tup {g : G} {a : Addr} {ds : List D} {vs : List V} (h : ∀ g', GOk c g' → Lw g g' → SqT c.K g'.H a vs ∧ Reps c.K (live g') g'.H ds vs) : Walks c g (Itt c.K a) (.items ds) := fun g' ok le => by
  obtain ⟨hs, hr⟩ := h g' ok le
  refine ⟨fun i x hx => ?_, ⟨vs, hs, Nat.le_of_eq hr.length.symm⟩⟩
  obtain ⟨w, hw, rw1⟩ := hr.get hx
  refine ⟨⟨vs, w, hs, hw⟩, fun w' H' hy => ?_⟩
  obtain ⟨rfl, hy⟩ := hy
  have e := hy vs hs
  rw [hw] at e
  cases e
  exact ⟨ok, Le.refl g', rw1⟩
theorem walks_keys {g : G} {d : Addr} {o : Obj} {ks : List (Ky × D)} {vs : List (Key × V)} (ok0 : GOk c g) (hd : g.H d = some (.frz o (.dK vs))) (nl : ¬ live g d) (r : RepKs c.K (live g) g.H ks vs) : Walks c g (Itk d o vs) (.items (ks.map fun p => kyD p.1)) := fun g' ok le => by
  have e := ((le.mo ok0).keep d _ hd nl (fun ps z => by cases z)).1
  have hr := Reps.mo (le.mo ok0) _ _ r.keys
  have hl := hr.length
  rw [List.length_map, List.length_map] at hl
  refine ⟨fun i x hx => ?_, ⟨e, by rw [List.length_map]; exact Nat.le_of_eq hl.symm⟩⟩
  obtain ⟨w, hw, rw1⟩ := hr.get hx
  have hi : i < vs.length := by
    have := (List.getElem?_eq_some_iff.mp hw).1
    simpa using this
  refine ⟨⟨e, hi⟩, fun w' H' hy => ?_⟩
  obtain ⟨rfl, k, v, hk, rfl⟩ := hy
  rw [List.getElem?_map, hk] at hw
  cases hw
  exact ⟨ok, Le.refl g', rw1⟩
theorem walks_str {g : G} {s : List Nat} (o : okS s) : Walks c g (Its (SS s)) (.items (s.map fun k => .str [k])) := fun g' ok le => by
  refine ⟨fun i x hx => ?_, ?_⟩
  · rw [List.getElem?_map] at hx
    cases hk : s[i]? with
    | none => rw [hk] at hx; cases hx
    | some k =>
      rw [hk] at hx
      cases hx
      have hi : i < s.length := (List.getElem?_eq_some_iff.mp hk).1
      refine ⟨by show i < (SS s).cps.size; simpa [SS] using hi, fun w' H' hy => ?_⟩
      obtain ⟨rfl, k', hk', rfl⟩ := hy
      have e : (SS s).cps[i]? = s[i]? := by simp [SS]
      rw [e, hk] at hk'
      cases hk'
      refine ⟨ok, Le.refl g', ?_⟩
      exact .str (s := [k]) fun x hx => by
        have e : x = k := by simpa using hx
        subst e
        exact o _ (List.mem_of_getElem? hk)
  · show (SS s).cps.size ≤ (s.map fun k => D.str [k]).length
    simp [SS]
theorem walks_range {g : G} {i j : Int} : Walks c g (Itr i (j - i).toNat) (.items (rangeD i j)) := fun g' ok le => by
  refine ⟨fun k x hx => ?_, ?_⟩
  · unfold rangeD at hx
    rw [List.getElem?_map] at hx
    cases hk : (List.range (j - i).toNat)[k]? with
    | none => rw [hk] at hx; cases hx
    | some m =>
      rw [hk] at hx
      cases hx
      obtain ⟨h1, h2⟩ := List.getElem?_eq_some_iff.mp hk
      simp at h1 h2
      subst h2
      refine ⟨by show k < (j - i).toNat; omega, fun w' H' hy => ?_⟩
      obtain ⟨rfl, rfl⟩ := hy
      exact ⟨ok, Le.refl g', .int _⟩
  · show (j - i).toNat ≤ (rangeD i j).length
    simp [rangeD]
end
section
variable {c : Glb} {U : EV.Env} {W : WX} {X : Cx} {e a b tg : Expr} {l la lb : LE} {es : List Expr} {pos p p2 : Pos}
/-- for k in d: the table is locked from then on -/
def tLk (te : TE) : TE := fun σ H Q => te σ H fun x H1 => ∃ d kvs, x = .ref d ∧ ((H1 d = some (.dK kvs) ∧ ∀ o, Q (.ref d) (upd H1 d (.frz o (.dK kvs)))) ∨ ∃ o, H1 d = some (.frz o (.dK kvs)) ∧ Q (.ref d) H1)
theorem pe_lk {te : TE} (he : PE X e te) : PE X e (tLk te) := by
  refine ⟨fun pins s σ H Q I h => ?_⟩
  refine thn (he.run pins s σ H _ I h) fun u s1 ⟨x, H1, I1, rx, d, kvs, ex, q⟩ => ?_
  subst ex
  rcases q with ⟨hd, q⟩ | ⟨o, hd, q⟩
  · obtain ⟨od, I2⟩ := I1.lock hd True.intro
    exact ⟨.ref d, _, I2, rx, q od⟩
  · exact ⟨.ref d, H1, I1, rx, q⟩
theorem si_val (hK : X.K = c.K) (he : PE X e (tEv c U W l)) : PI X tg e (tIv c U W (.val l)) := PI.imp (PI.or (PI.or (pi_list he) (PI.or (pi_tup he) (pi_str he))) (pi_keys (pe_lk he))) fun σ H R => by
  rintro ⟨g, loc, rfl, ok, lo, out⟩
  have out2 := Out.bind out
  -- the value decides
  cases hr : evE U l loc g.S with
  | exc n xs S' =>
    rw [hr] at out2
    refine .inl (.inl ⟨g, loc, rfl, ok, lo, ?_⟩)
    rw [hr]
    exact out2
  | stuck => rw [hr] at out2; exact out2.elim
  | ok v S' =>
    rw [hr] at out2
    have mk : ∀ (k : Vl → G → Prop), (∀ ρ' H', GOk c ⟨g.hid, ρ', S', H'⟩ → Le g ⟨g.hid, ρ', S', H'⟩ → k v ⟨g.hid, ρ', S', H'⟩) → Out c g W σ (evE U l loc g.S) k := fun k h => by rw [hr]; exact h
    cases v with
    | d x =>
      cases x with
      | tup ds =>
        refine .inl (.inr (.inl ⟨g, loc, rfl, ok, lo, mk _ fun ρ' H' ok1 le1 w rw1 => ?_⟩))
        obtain ⟨le, ok', o⟩ := out2 ρ' H' ok1 le1
        cases rw1 with
        | d r =>
          rw [hK]
          have r0 := r
          cases r with
          | @tup a _ vs hs hl hrr => exact ⟨a, rfl, ⟨vs, hs.sq⟩, Out.here o ok1 _ (walks_tup fun g' ok2 le2 => ⟨((le2.mo ok1).tup hs).sq, hrr.lw ok1 le2⟩)⟩
      | lst ds =>
        refine .inl (.inl ⟨g, loc, rfl, ok, lo, mk _ fun ρ' H' ok1 le1 w rw1 => ?_⟩)
        obtain ⟨le, ok', o⟩ := out2 ρ' H' ok1 le1
        cases rw1 with
        | d r =>
          rw [hK]
          cases r with
          | @lst a _ vs hs hn hl hrr => exact ⟨a, rfl, ⟨vs, SqL.of hs⟩, Out.here o ok1 _ (walks_list fun g' ok2 le2 => ⟨(le2.mo ok1).sql (SqL.of hs) hn, hrr.lw ok1 le2⟩)⟩
      | str s =>
        refine .inl (.inr (.inr ⟨g, loc, rfl, ok, lo, mk _ fun ρ' H' ok1 le1 w rw1 => ?_⟩))
        obtain ⟨le, ok', o⟩ := out2 ρ' H' ok1 le1
        cases rw1 with
        | d r =>
          cases r with
          | str os => exact ⟨_, rfl, Out.here o ok1 _ (walks_str os)⟩
      | _ =>
        refine .inl (.inl ⟨g, loc, rfl, ok, lo, mk _ fun ρ' H' ok1 le1 w rw1 => ?_⟩)
        obtain ⟨le, ok', o⟩ := out2 ρ' H' ok1 le1
        exact False.elim o
    | ref n =>
      by_cases hlv : liveL S' n = true
      · refine .inl (.inl ⟨g, loc, rfl, ok, lo, mk _ fun ρ' H' ok1 le1 w rw1 => ?_⟩)
        obtain ⟨le, ok', o⟩ := out2 ρ' H' ok1 le1
        have o : Out c ⟨g.hid, ρ', S', H'⟩ W σ (if liveL S' n then EV.R.ok (Src.live n) S' else _) _ := o
        rw [if_pos hlv] at o
        rw [hK]
        cases rw1 with
        | @ref _ a ea =>
          have there : ∃ ds, (S' : List Cell)[n]? = some (.lst ds) := by
            unfold liveL at hlv
            split at hlv
            · rename_i ds hs; exact ⟨ds, hs⟩
            · cases hlv
          obtain ⟨ds, hs⟩ := there
          obtain ⟨vs, h1, hl, hrr⟩ := ok1.cell n a _ ea hs
          refine ⟨a, rfl, ⟨vs, SqL.of h1⟩, Out.here o ok1 _ fun g' ds' ok2 le2 hs' => ?_⟩
          have ea' := pre_get le2.pre ea
          obtain ⟨vs', h1', hl', hrr'⟩ := ok2.cell n a _ ea' hs'
          refine ⟨fun i x hx => ?_, fun i hi => ⟨vs', SqL.of h1', by rw [← hrr'.length]; exact hi⟩⟩
          obtain ⟨w, hw, rw1⟩ := hrr'.get hx
          refine ⟨⟨vs', w, SqL.of h1', hw⟩, fun w' H' hy => ?_⟩
          obtain ⟨rfl, hy⟩ := hy
          have e := hy vs' (SqL.of h1')
          rw [hw] at e
          cases e
          exact ⟨ok2, Le.refl g', rw1⟩
      · refine .inr ⟨g, loc, rfl, ok, lo, mk _ fun ρ' H' ok1 le1 w rw1 => ?_⟩
        obtain ⟨le, ok', o⟩ := out2 ρ' H' ok1 le1
        have o : Out c ⟨g.hid, ρ', S', H'⟩ W σ (if liveL S' n then EV.R.ok (Src.live n) S' else EV.R.opt (dicOf S' (.ref n)) fun kvs => .ok (.items (kvs.map fun p => kyD p.1)) (S'.set n (.fzd kvs))) _ := o
        rw [if_neg hlv] at o
        obtain ⟨kvs, hk, o⟩ := Out.opt o
        obtain ⟨m, a, vs, e0, rfl, e1, e2, e3, e4, e5⟩ := dicOf_ok ok1 rw1 hk
        cases e0
        refine ⟨a, vs, rfl, ?_⟩
        rcases e2 with ⟨hs, hd⟩ | hs
        · refine .inl ⟨hd, fun od => ⟨a, od, rfl, .inl ⟨vs, upd_same, ?_⟩⟩⟩
          have ok3 := gok_lock (od := od) ok1 e1 hs rfl e4 e5
          have le3 := le_set (x := .fzd kvs) (o := .frz od (.dK vs)) ok1 e1 hs rfl
          have nl : ¬ live ⟨g.hid, ρ', S'.set n (.fzd kvs), upd H' a (.frz od (.dK vs))⟩ a := fun z => by
            rcases (live_set (x := .fzd kvs) (o := .frz od (.dK vs)) ok1 e1 hs a).mp z with ⟨z, _⟩ | ⟨_, z⟩
            · exact z rfl
            · cases z
          exact o ρ' _ ok3 le3 _ (walks_keys ok3 upd_same nl (e5.mo (le3.mo ok1)))
        · obtain ⟨od, vs', q1, nl, q2, q3⟩ := ok1.cell n a _ e1 hs
          have ev : vs' = vs := by
            rcases e3 with z | ⟨o', z⟩
            · have q1 : H' a = _ := q1
              have z : H' a = _ := z
              rw [q1] at z; cases z
            · have q1 : H' a = _ := q1
              have z : H' a = _ := z
              rw [q1] at z; cases z; rfl
          subst ev
          have es : S'.set n (.fzd kvs) = S' := by
            refine List.ext_getElem? fun i => ?_
            by_cases hi : i = n
            · subst hi
              rw [List.getElem?_set_self (List.getElem?_eq_some_iff.mp hs).1]
              exact hs.symm
            · exact List.getElem?_set_ne (Ne.symm hi)
          rw [es] at o
          refine .inr ⟨od, q1, a, od, rfl, .inl ⟨_, q1, ?_⟩⟩
          exact Out.here o ok1 _ (walks_keys ok1 q1 nl q3)
    | _ =>
      refine .inl (.inl ⟨g, loc, rfl, ok, lo, mk _ fun ρ' H' ok1 le1 w rw1 => ?_⟩)
      obtain ⟨le, ok', o⟩ := out2 ρ' H' ok1 le1
      exact False.elim o
theorem si_rng1 (hg : Gl X "range") (hm : X.mg "range" = none) (hp : plainX a = true) (ha : PE X a (tEv c U W la)) : PI X tg (.Call (.Name "range" p) [a] [] pos) (tIv c U W (.rng1 la)) :=
  PI.imp (pi_range1 hg hm (pa_cons ha pa_nil (star_cons hp)) (star_cons hp)) fun σ H R => by
  rintro ⟨g, loc, rfl, ok, lo, out⟩
  refine ⟨g, loc, rfl, ok, lo, (Out.bind out).imp fun v g1 ⟨le1, ok1, out1⟩ w rw1 => ?_⟩
  cases rw1 with
  | d r =>
    cases r with
    | int j =>
      have out1 : Out c g1 W σ (if wideI j then EV.R.ok (Src.items (rangeD 0 j)) g1.S else .stuck) _ := out1
      split at out1
      · rename_i hw
        have hw : -(2 ^ 62) ≤ j ∧ j < 2 ^ 62 := by simpa [wideI] using hw
        refine ⟨j, rfl, hw.1, hw.2, ?_⟩
        have e : j.toNat = (j - 0).toNat := by rw [Int.sub_zero]
        rw [e]
        exact Out.here out1 ok1 _ walks_range
      · exact out1.elim
    | _ => exact False.elim out1
  | _ => exact False.elim out1
theorem si_rng2 (hg : Gl X "range") (hm : X.mg "range" = none) (hp : plainX a = true) (hp2 : plainX b = true) (ha : PE X a (tEv c U W la)) (hb : PE X b (tEv c U W lb)) : PI X tg (.Call (.Name "range" p) [a, b] [] pos) (tIv c U W (.rng2 la lb)) :=
  PI.imp (pi_range2 hg hm (pa_cons ha (pa_cons hb pa_nil (star_cons hp2)) (star_cons hp)) (by rw [star_cons hp, star_cons hp2]; rfl) (star_cons hp2)) fun σ H R => by
  rintro ⟨g, loc, rfl, ok, lo, out⟩
  refine ⟨g, loc, rfl, ok, lo, (Out.bind out).imp fun v g1 ⟨le1, ok1, out1⟩ w rw1 => ?_⟩
  refine ⟨g1, loc, rfl, ok1, lo.le ok le1, (Out.bind out1).imp fun v2 g2 ⟨le2, ok2, out2⟩ w2 rw2 => ?_⟩
  cases rw1 with
  | d r =>
    cases r with
    | int i =>
      cases rw2 with
      | d r2 =>
        cases r2 with
        | int j =>
          have out2 : Out c g2 W σ (if wideI i && wideI j then EV.R.ok (Src.items (rangeD i j)) g2.S else .stuck) _ := out2
          split at out2
          · rename_i hw
            have hw : (-(2 ^ 62) ≤ i ∧ i < 2 ^ 62) ∧ (-(2 ^ 62) ≤ j ∧ j < 2 ^ 62) := by simpa [wideI] using hw
            exact ⟨i, j, rfl, ⟨hw.1.1, hw.1.2, hw.2.1, hw.2.2⟩, Out.here out2 ok2 _ walks_range⟩
          · exact out2.elim
        | _ => exact False.elim out2
      | _ => exact False.elim out2
    | _ => cases rw2 with
      | d r2 => cases r2 <;> exact False.elim out2
      | _ => exact False.elim out2
  | _ => cases rw2 <;> exact False.elim out2
end
end EV
end

section
set_option Elab.async false
set_option linter.all false
set_option maxRecDepth 100000
set_option maxHeartbeats 1000000
/-! EV10: enumerate and zip over lists, tuples, texts -/
namespace EV
open PySem PySem.Spec PyProof.Rows L2
/-- what is gone through -/
inductive Kd where
  | l (a : Addr) | t (a : Addr) | s (x : Str)
def Kd.v : Kd → V
  | .l a => .ref a
  | .t a => .ref a
  | .s x => .str x
def Kd.old : Kd → List Addr
  | .l a => [a]
  | .t a => [a]
  | .s _ => []
def Kd.st (k : Kd) (it : Addr) (i : Nat) (h : PySem.Heap) : Prop :=
  match k with
  | .l a => h.IsListIter it a i
  | .t a => h.IsTupleIter it a i
  | .s x => ∃ t, h.IsStrIter it (strIterType x) x t i
def Kd.vals (k : Kd) (K : PySem.W.Frag) (H : Hp) (xs : List V) : Prop :=
  match k with
  | .l a => SqL K H a xs
  | .t a => SqT K H a xs
  | .s x => xs = x.cps.toList.map fun c => .str ⟨#[c]⟩
theorem Kd.st_obj {k : Kd} {it : Addr} {i : Nat} {h : PySem.Heap} (st : k.st it i h) : ∃ o, h.get? it = some o ∧ ∀ v, o.data ≠ .cell v := by
  cases k with
  | l a => obtain ⟨o, e, _, d⟩ := st; exact ⟨o, e, fun v q => by rw [d] at q; cases q⟩
  | t a => obtain ⟨o, e, _, d⟩ := st; exact ⟨o, e, fun v q => by rw [d] at q; cases q⟩
  | s x => obtain ⟨t, o, e, _, d⟩ := st; exact ⟨o, e, fun v q => by rw [d] at q; cases q⟩
theorem Kd.st_keep {k : Kd} {it : Addr} {i : Nat} {h h' : PySem.Heap} (st : k.st it i h) (e : ∀ o, h.get? it = some o → h'.get? it = some o) : k.st it i h' := by
  cases k with
  | l a => obtain ⟨o, q, r⟩ := st; exact ⟨o, e o q, r⟩
  | t a => obtain ⟨o, q, r⟩ := st; exact ⟨o, e o q, r⟩
  | s x => obtain ⟨t, o, q, r⟩ := st; exact ⟨t, o, e o q, r⟩
theorem vals_at {xs : List V} {its : List Value} (rv : Vals xs its) {i : Nat} {u : Value} (h : its[i]? = some u) : ∃ x, xs[i]? = some x ∧ RelV x u := by
  have hi : i < xs.length := by rw [rv.length]; exact (List.getElem?_eq_some_iff.mp h).1
  obtain ⟨v, hv, r⟩ := rv.get (List.getElem?_eq_getElem hi)
  rw [h] at hv
  cases hv
  exact ⟨_, List.getElem?_eq_getElem hi, r⟩
section
variable {X : Cx} {pins : List (Addr × Obj)} {σ : L2.St} {H : Hp} {s : Shared}
theorem Kd.inj (I : Inv X pins σ H s) {k : Kd} {xs ys : List V} (h : k.vals X.K H xs) (h' : k.vals X.K H ys) : xs = ys := by
  cases k with
  | l a => exact I.list_inj h h'
  | t a => exact I.tuple_inj h h'
  | s x => have h : xs = _ := h; have h' : ys = _ := h'; rw [h, h']
/-- its iterator, drawn from -/
theorem Kd.draws (I : Inv X pins σ H s) (hc : X.calm = true) {k : Kd} {it : Addr} {i : Nat} {xs : List V} (hv : k.vals X.K H xs) (ne : ∀ a ∈ k.old, a ≠ it) (st : k.st it i s.heap) :
    ∃ (P : Nat → Value → Prop) (St : Nat → PySem.Heap → Prop), Draws X.prog X.w X.A.in1 it (it :: k.old) xs.length P St ∧ St i s.heap ∧ (∀ j h, St j h → k.st it j h) ∧ ∀ j v, P j v → ∃ x, xs[j]? = some x ∧ RelV x v := by
  have hh : X.A.in1.handled = none := I.ok.hd hc
  cases k with
  | l a =>
    obtain ⟨its, rv, p, _⟩ := I.list hv
    have e : xs.length = its.toArray.size := by simpa using rv.length
    rw [e]
    refine ⟨_, _, Draws.list hh it a (ne a (by simp [Kd.old])) its.toArray, ⟨st, p.isList⟩, fun j h q => q.1, fun j v q => ?_⟩
    exact vals_at rv (by simpa using q)
  | t a =>
    obtain ⟨its, rv, p, _⟩ := I.tuple hv
    have e : xs.length = its.toArray.size := by simpa using rv.length
    rw [e]
    refine ⟨_, _, Draws.tuple hh it a (ne a (by simp [Kd.old])) its.toArray, ⟨st, p⟩, fun j h q => q.1, fun j v q => ?_⟩
    exact vals_at rv (by simpa using q)
  | s x =>
    obtain ⟨t, st⟩ := st
    have hv : xs = x.cps.toList.map fun c => .str ⟨#[c]⟩ := hv
    have e : xs.length = x.cps.size := by rw [hv]; simp
    rw [e]
    refine ⟨_, _, Draws.text hh it x t, st, fun j h q => ⟨t, q⟩, fun j v ⟨c, u, q1, q2⟩ => ⟨.str ⟨#[c]⟩, ?_, ?_⟩⟩
    · rw [hv, List.getElem?_map, Array.getElem?_toList, q1]; rfl
    · exact ⟨u, q2⟩
/-- its iterator, as it begins -/
theorem Kd.begins (I : Inv X pins σ H s) {k : Kd} {xs : List V} {u : Value} (hv : k.vals X.K H xs) (r : RelV k.v u) :
    ∃ (o : Obj) (Hh : PySem.Heap → Prop), Begins u o Hh ∧ Hh s.heap ∧ (∀ h it, h.get? it = some o → k.st it 0 h) ∧ ∀ a ∈ k.old, a < s.heap.objs.size := by
  cases k with
  | l a =>
    cases r
    obtain ⟨its, rv, p, _⟩ := I.list hv
    exact ⟨_, _, begins_list a its.toArray, p.isList, fun h it e => ⟨_, e, rfl, rfl⟩, fun b hb => by
      have e : b = a := by simpa [Kd.old] using hb
      rw [e]; exact p.lt⟩
  | t a =>
    cases r
    obtain ⟨its, rv, p, _⟩ := I.tuple hv
    have lt : a < s.heap.objs.size := by obtain ⟨o, e, _⟩ := id p; exact Heap.lt_size e
    exact ⟨_, _, begins_tuple a its.toArray, p, fun h it e => ⟨_, e, rfl, rfl⟩, fun b hb => by
      have e : b = a := by simpa [Kd.old] using hb
      rw [e]; exact lt⟩
  | s x =>
    obtain ⟨t, rfl⟩ := r
    exact ⟨_, _, begins_text x t, trivial, fun h it e => ⟨t, _, e, rfl, rfl⟩, fun b hb => by simp [Kd.old] at hb⟩
end
/-! ### enumerate -/
def ItE (K : PySem.W.Frag) (k : Kd) : It :=
  ⟨fun i H => ∃ (xs : List V) (x : V), k.vals K H xs ∧ xs[i]? = some x, fun i H v H' => ∃ T x, v = .ref T ∧ H T = none ∧ H' = upd H T (.tup [.int (i : Nat), x]) ∧ ∀ xs, k.vals K H xs → xs[i]? = some x, fun i H => ∃ xs : List V, k.vals K H xs ∧ xs.length = i⟩
theorem turn_enumK {P : Program} {w : World} {K : PySem.W.Frag} {elts : List Expr} {kk : Nat} {tpos : Pos} {k : Kd} {e it : Addr} (hei : e ≠ it) (hk : ∀ a ∈ k.old, a ≠ e ∧ a ≠ it) :
    Turn P w K (.Tuple elts kk tpos) (ItE K k) [e, it] e (fun i h => (∃ old, IsEnum h e it ((i : Nat) : Int) old) ∧ k.st it i h) where
  mem := by simp
  obj := fun i h st b hb => by
    obtain ⟨⟨old, he⟩, hi⟩ := st
    have e' : b = e ∨ b = it := by simpa using hb
    rcases e' with z | z
    · rw [z]; exact ⟨_, he, fun v q => nomatch q⟩
    · rw [z]; exact Kd.st_obj hi
  keep := fun i h h' st q => ⟨⟨st.1.choose, q e (by simp) _ st.1.choose_spec⟩, Kd.st_keep st.2 fun o z => q it (by simp) o z⟩
  item := by
    intro X hP hw hK hc i pins s σ H E I hf st hg
    subst hP hw hK
    obtain ⟨⟨old, he⟩, hit⟩ := st
    obtain ⟨xs, x, hq, hx⟩ := hg
    obtain ⟨P, St, D, st, stk, hPv⟩ := Kd.draws I hc hq (fun a ha => (hk a ha).2) hit
    have hel : e < s.heap.objs.size := Heap.lt_size he
    have hil : it < s.heap.objs.size := by obtain ⟨_, q, _⟩ := Kd.st_obj hit; exact Heap.lt_size q
    have hef : e ∉ it :: k.old := fun z => by
      rcases List.mem_cons.mp z with z | z
      · exact hei z
      · exact (hk e z).1 rfl
    refine wpAny_pyNext_enum_itemD D he st (List.getElem?_eq_some_iff.mp hx).1 hei hef fun u h' tk hu ho hst' hT hsz hkk => ?_
    obtain ⟨x', hx', ru⟩ := hPv i u hu
    rw [hx] at hx'
    cases hx'
    refine ⟨_, rfl, wpAny_letOwnedTupleGo_enum (s := { s with heap := h', toks := tk + 1 }) ho fun h'' he' sb => ?_⟩
    have hT2 : h''.get? s.heap.objs.size = some { cls := .type "tuple", data := .seq #[.int i tk, u] } := (sb.2 _ (Nat.ne_of_gt hel)).trans hT
    have new : ObjOk X.prog X.w (upd H s.heap.objs.size (.tup [.int (i : Nat), x])) h'' s.heap.objs.size (.tup [.int (i : Nat), x]) :=
      ⟨by show 2 ≤ sizeLine; decide, [.int i tk, u], .cons ⟨_, rfl⟩ (.cons ru .nil), ⟨_, hT2, rfl, _, rfl⟩⟩
    have I1 : Inv X pins σ (upd H s.heap.objs.size (.tup [.int (i : Nat), x])) { s with heap := h'', toks := tk + 1 } :=
      I.turnedNew (ch := [e, it]) (fun b ob hb q => (sb.2 b (fun z => hb (by simp [z]))).trans (hkk b ob (fun z => hb (by simp [z])) (fun z => hb (by simp [z])) q)) hf (Nat.le_refl _) new
    refine ⟨.ref s.heap.objs.size, _, I1, rfl, ⟨_, x, rfl, I.hok.fresh (Nat.le_refl _), rfl, fun ys hy => by rw [Kd.inj I hy hq]; exact hx⟩, ⟨⟨u, ?_⟩, Kd.st_keep (stk _ _ hst') fun o q => (sb.2 it (Ne.symm hei)).trans q⟩, fun b hb => ?_⟩
    · have e1 : ((i + 1 : Nat) : Int) = (i : Int) + 1 := by omega
      rw [e1]; exact he'
    · have hb' : b < s.heap.objs.size := by
        have e' : b = e ∨ b = it := by simpa using hb
        rcases e' with z | z
        · rw [z]; exact hel
        · rw [z]; exact hil
      rw [upd_ne (Nat.ne_of_lt hb')]
      exact (hf b hb).1
  done := by
    intro X hP hw hK hc i pins s σ H E I hf st hg
    subst hP hw hK
    obtain ⟨⟨old, he⟩, hit⟩ := st
    obtain ⟨xs, hq, hx⟩ := hg
    subst hx
    obtain ⟨P, St, D, st, stk, hPv⟩ := Kd.draws I hc hq (fun a ha => (hk a ha).2) hit
    obtain ⟨f0, f1, f2, f3, f4, f5⟩ := hf it (by simp)
    exact wpAny_pyNext_enum_endD D he st fun h' eb => ⟨rfl, I.turned (t' := s.toks) (fun b o hb q => eb b o hb q) f0 f1 f3 f4 f5⟩
  self := fun A i s Q E st h => let ⟨⟨_, he⟩, _⟩ := st; wpAny_pyIter_enum he h
theorem meets_enum1 {v : Value} {o : Obj} {Hh : PySem.Heap → Prop} (B : Begins v o Hh) :
    Meets (Builtin.«enumerate.__new__» ⟨[.type "enumerate", v], []⟩) (fun _ R s => Hh s.heap ∧
      R (.ok (.ret (.ref (s.heap.push o).objs.size))) { s with heap := (s.heap.push o).push { cls := .type "enumerate", data := .fields #[.none, .bool false, .ref s.heap.objs.size, rawInt 0, .none, .none] } }) :=
  .of_wp fun prog w A R s h => by
    obtain ⟨hp, g, d, tk, os⟩ := s; obtain ⟨h1, h⟩ := h
    have hsub := sub_enumerate
    have q1 : ∀ {A' : Around} {E : Value → Shared → Prop} {Q : Value → Shared → Prop}, Q (.ref hp.objs.size) ⟨hp.push o, g, d, tk, os⟩ → wpAny (model prog w) A' (pyIter v) Q E ⟨hp, g, d, tk, os⟩ :=
      fun q => B.iter prog w _ _ ⟨hp, g, d, tk, os⟩ _ h1 q
    wp_walk using q1
    refine wpAny_stack_any fun st => wpAny_pure ?_
    split
    · rename_i c _ _ _ _ _
      cases (c == Value.type "enumerate")
      · wp_walk using q1
        exact ⟨_, rfl, h⟩
      · wp_walk using q1
        exact ⟨_, rfl, h⟩
    · wp_walk using q1
      exact ⟨_, rfl, h⟩
theorem enum_begin1 {prog : Program} {w : World} {A : Around} {E : Value → Shared → Prop} {s : Shared} {v : Value} {o : Obj} {Hh : PySem.Heap → Prop} {Q : Value → Shared → Prop} (B : Begins v o Hh) (h1 : Hh s.heap)
    (h : ∀ h', IsEnum h' (s.heap.objs.size + 1) s.heap.objs.size 0 .none → h'.get? s.heap.objs.size = some o →
      (∀ b o, s.heap.get? b = some o → h'.get? b = some o) → Q (.ref (s.heap.objs.size + 1)) { s with heap := h' }) :
    wpAny (model prog w) A (call (.type "enumerate") [v]) Q E s := by
  refine callType_new F.called_enumerate (by decide) (F.typeCall_enumerate_1 _) (F.newCall_enumerate_1 _) (fun obj => F.args_object_init_2 obj _) F.entry_enumerate_new
    (meets_enum1 B) ⟨h1, ?_⟩
  have hz : (s.heap.push o).objs.size = s.heap.objs.size + 1 := Heap.size_push ..
  show _ ∧ _
  rw [hz]
  have he : IsEnum ((s.heap.push o).push { cls := .type "enumerate", data := .fields #[.none, .bool false, .ref s.heap.objs.size, rawInt 0, .none, .none] }) (s.heap.objs.size + 1) s.heap.objs.size 0 .none := by
    have q := Heap.get?_push_size (s.heap.push o) (o := { cls := .type "enumerate", data := .fields #[.none, .bool false, .ref s.heap.objs.size, rawInt 0, .none, .none] }) rfl
    rw [hz] at q; exact q
  exact ⟨⟨_, he, rfl⟩, h _ he (Heap.get?_push_of_some _ (Heap.get?_push_size _ B.free)) fun b o x => Heap.get?_push_of_some _ (Heap.get?_push_of_some _ x)⟩
def iEnumK (K : PySem.W.Frag) (ta : TA) : TI := fun σ H R => ta σ H fun vs H1 => ∃ (k : Kd) (xs : List V), vs = [k.v] ∧ k.vals K H1 xs ∧ R (ItE K k) H1
theorem pi_enumK {X : Cx} {e : Expr} {ta : TA} {p pos tpos : Pos} {elts : List Expr} {kk : Nat} (hg : Gl X "enumerate") (hm : X.mg "enumerate" = none) (ha : PA X [e] ta) (hs : starEach [e] X.env = [(false, eval e X.env)]) :
    PI X (.Tuple elts kk tpos) (.Call (.Name "enumerate" p) [e] [] pos) (iEnumK X.K ta) := by
  refine ⟨fun pins s σ H R I h => ?_⟩
  refine Call_ (ld_blt I hg hm boot_enumerate (PyProof.Rows.callWith_type1 (thn (ha.run pos pins s σ H _ I h) fun us s1 ⟨vs, H1, I1, r1, q1⟩ => ?_) hs rfl))
  obtain ⟨k, xs, ex, hq, q⟩ := q1
  subst ex
  cases r1 with
  | cons r rr =>
    cases rr
    obtain ⟨o, Hh, B, hH, hst, hlt⟩ := Kd.begins I1 hq r
    refine enum_begin1 B hH fun h' he hit hk => wpAny_pyIter_enum he ?_
    have I2 : Inv X pins σ H1 { s1 with heap := h' } := I1.kept (t' := s1.toks) hk
    refine ⟨s1.heap.objs.size + 1, [s1.heap.objs.size + 1, s1.heap.objs.size], _, _, H1, rfl, I2, turn_enumK (k := k) (Nat.succ_ne_self _) (fun a ha => ⟨Nat.ne_of_lt (Nat.lt_succ_of_lt (hlt a ha)), Nat.ne_of_lt (hlt a ha)⟩), ⟨⟨.none, he⟩, hst _ _ hit⟩, fun b hb => ?_, q⟩
    have e' : b = s1.heap.objs.size + 1 ∨ b = s1.heap.objs.size := by simpa using hb
    have hle : s1.heap.objs.size ≤ b := by
      rcases e' with z | z
      · rw [z]; exact Nat.le_add_right _ _
      · rw [z]; exact Nat.le_refl _
    exact I1.fpOk hle (I1.hok.fresh hle)
end EV
end

section
set_option Elab.async false
set_option linter.all false
set_option maxRecDepth 100000
set_option maxHeartbeats 1000000
/-! EV11: zip; what is walked, for enumerate and zip -/
namespace EV
open PySem PySem.Spec PyProof.Rows L2
def ItZ (K : PySem.W.Frag) (k m : Kd) : It :=
  ⟨fun i H => ∃ (xs ys : List V) (x y : V), k.vals K H xs ∧ m.vals K H ys ∧ xs[i]? = some x ∧ ys[i]? = some y,
    fun i H v H' => ∃ T x y, v = .ref T ∧ H T = none ∧ H' = upd H T (.tup [x, y]) ∧ (∀ xs, k.vals K H xs → xs[i]? = some x) ∧ ∀ ys, m.vals K H ys → ys[i]? = some y,
    fun i H => ∃ xs ys : List V, k.vals K H xs ∧ m.vals K H ys ∧ i ≤ xs.length ∧ i ≤ ys.length ∧ (i = xs.length ∨ i = ys.length)⟩
theorem turn_zipK {P : Program} {w : World} {K : PySem.W.Frag} {elts : List Expr} {kk : Nat} {tpos : Pos} {k m : Kd} {z TI TO i1 i2 : Addr} (D : ZipSep2 z TI TO i1 i2 (i1 :: k.old) (i2 :: m.old)) (n1 : ∀ a ∈ k.old, a ≠ i1) (n2 : ∀ a ∈ m.old, a ≠ i2) :
    Turn P w K (.Tuple elts kk tpos) (ItZ K k m) [z, TI, TO, i1, i2] z (fun i h => IsZip h z TI TO .none ∧ IsTupOf2 h TI (.ref i1) (.ref i2) ∧ (∃ x y, IsTupOf2 h TO x y) ∧ k.st i1 i h ∧ m.st i2 i h) where
  mem := by simp
  obj := fun i h st c hc => by
    obtain ⟨hz, hTI, ⟨x, y, hTO⟩, h1, h2⟩ := st
    have e' : c = z ∨ c = TI ∨ c = TO ∨ c = i1 ∨ c = i2 := by simpa using hc
    rcases e' with q | q | q | q | q
    · rw [q]; exact ⟨_, hz, fun v q => nomatch q⟩
    · rw [q]; exact ⟨_, hTI, fun v q => nomatch q⟩
    · rw [q]; exact ⟨_, hTO, fun v q => nomatch q⟩
    · rw [q]; exact Kd.st_obj h1
    · rw [q]; exact Kd.st_obj h2
  keep := fun i h h' st q => by
    obtain ⟨hz, hTI, ⟨x, y, hTO⟩, h1, h2⟩ := st
    exact ⟨q z (by simp) _ hz, q TI (by simp) _ hTI, ⟨x, y, q TO (by simp) _ hTO⟩, Kd.st_keep h1 fun o e => q i1 (by simp) o e, Kd.st_keep h2 fun o e => q i2 (by simp) o e⟩
  item := by
    intro X hP hw hK hc i pins s σ H E I hf st hg
    subst hP hw hK
    obtain ⟨hz, hTI, ⟨x0, y0, hTO⟩, h1, h2⟩ := st
    obtain ⟨xs, ys, x, y, hqx, hqy, hx, hy⟩ := hg
    obtain ⟨P1, S1, D1, st1, k1, v1⟩ := Kd.draws I hc hqx n1 h1
    obtain ⟨P2, S2, D2, st2, k2, v2⟩ := Kd.draws I hc hqy n2 h2
    have hzl : z < s.heap.objs.size := Heap.lt_size hz
    refine wpAny_pyNext_zipD2_item D D1 D2 hz hTI hTO st1 st2 (List.getElem?_eq_some_iff.mp hx).1 (List.getElem?_eq_some_iff.mp hy).1 fun u u2 h' tk hu hu2 z' TO' s1' s2' hT hsz hk => ?_
    obtain ⟨x', hx', ru⟩ := v1 i u hu
    obtain ⟨y', hy', ru2⟩ := v2 i u2 hu2
    rw [hx] at hx'
    rw [hy] at hy'
    cases hx'
    cases hy'
    refine ⟨_, rfl, wpAny_letOwnedTupleGo_zip (s := { s with heap := h', toks := tk }) z' fun h'' z'' sb => ?_⟩
    have hT2 : h''.get? s.heap.objs.size = some { cls := .type "tuple", data := .seq #[u, u2] } := (sb.2 _ (Nat.ne_of_gt hzl)).trans hT
    have new : ObjOk X.prog X.w (upd H s.heap.objs.size (.tup [x, y])) h'' s.heap.objs.size (.tup [x, y]) :=
      ⟨by show 2 ≤ sizeLine; decide, [u, u2], .cons ru (.cons ru2 .nil), ⟨_, hT2, rfl, _, rfl⟩⟩
    have I1 : Inv X pins σ (upd H s.heap.objs.size (.tup [x, y])) { s with heap := h'', toks := tk } :=
      I.turnedNew (ch := [z, TI, TO, i1, i2]) (fun c o hb q => (sb.2 c (fun q' => hb (by simp [q']))).trans (hk c o (fun q' => hb (by simp [q'])) (fun q' => hb (by simp [q'])) (fun q' => hb (by simp [q'])) (fun q' => hb (by simp [q'])) q)) hf (Nat.le_refl _) new
    refine ⟨.ref s.heap.objs.size, _, I1, rfl, ⟨_, x, y, rfl, I.hok.fresh (Nat.le_refl _), rfl, fun l hl => by rw [Kd.inj I hl hqx]; exact hx, fun l hl => by rw [Kd.inj I hl hqy]; exact hy⟩, ⟨z'', ?_, ⟨u, u2, ?_⟩, ?_, ?_⟩, fun c hcm => ?_⟩
    · exact (sb.2 _ D.TIz).trans (hk _ _ D.TIz D.TITO D.TIi1 D.TIi2 hTI)
    · exact (sb.2 _ D.TOz).trans TO'
    · exact Kd.st_keep (k1 _ _ s1') fun o q => (sb.2 _ (Ne.symm D.zi1)).trans q
    · exact Kd.st_keep (k2 _ _ s2') fun o q => (sb.2 _ (Ne.symm D.zi2)).trans q
    · have hlt : c < s.heap.objs.size := by
        have e' : c = z ∨ c = TI ∨ c = TO ∨ c = i1 ∨ c = i2 := by simpa using hcm
        rcases e' with q | q | q | q | q
        · rw [q]; exact hzl
        · rw [q]; exact Heap.lt_size hTI
        · rw [q]; exact Heap.lt_size hTO
        · rw [q]; obtain ⟨_, e1, _⟩ := Kd.st_obj h1; exact Heap.lt_size e1
        · rw [q]; obtain ⟨_, e2, _⟩ := Kd.st_obj h2; exact Heap.lt_size e2
      rw [upd_ne (Nat.ne_of_lt hlt)]
      exact (hf c hcm).1
  done := by
    intro X hP hw hK hc i pins s σ H E I hf st hg
    subst hP hw hK
    obtain ⟨hz, hTI, ⟨x0, y0, hTO⟩, h1, h2⟩ := st
    obtain ⟨xs, ys, hqx, hqy, le1, le2, hend⟩ := hg
    obtain ⟨P1, S1, D1, st1, k1, v1⟩ := Kd.draws I hc hqx n1 h1
    obtain ⟨P2, S2, D2, st2, k2, v2⟩ := Kd.draws I hc hqy n2 h2
    exact wpAny_pyNext_zipD2_end D D1 D2 hz hTI hTO st1 st2 le1 le2 hend fun h' tk hk => ⟨rfl, I.turnedL (t' := tk) (ch := [z, TI, TO, i1, i2]) (fun c o hb q =>
      hk c o (fun q' => hb (by simp [q'])) (fun q' => hb (by simp [q'])) (fun q' => hb (by simp [q'])) (fun q' => hb (by simp [q'])) q) hf⟩
  self := fun A i s Q E st h => wpAny_pyIter_zip st.1 h
def iZipK (K : PySem.W.Frag) (ta : TA) : TI := fun σ H R => ta σ H fun vs H1 => ∃ (k m : Kd) (xs ys : List V), vs = [k.v, m.v] ∧ k.vals K H1 xs ∧ m.vals K H1 ys ∧ R (ItZ K k m) H1
theorem pi_zipK {X : Cx} {e e2 : Expr} {ta : TA} {p pos tpos : Pos} {elts : List Expr} {kk : Nat} (hg : Gl X "zip") (hm : X.mg "zip" = none) (ha : PA X [e, e2] ta)
    (hs : starEach [e, e2] X.env = (false, eval e X.env) :: starEach [e2] X.env) (hpl : (backTo pos (starEach [e2] X.env)).any (·.1) = false) :
    PI X (.Tuple elts kk tpos) (.Call (.Name "zip" p) [e, e2] [] pos) (iZipK X.K ta) := by
  refine ⟨fun pins s σ H R I h => ?_⟩
  refine Call_ (ld_blt I hg hm PyProof.Rows.boot_zip (PyProof.Rows.callWith_type1 (thn (ha.run pos pins s σ H _ I h) fun us s1 ⟨vs, H1, I1, r1, q1⟩ => ?_) hs hpl))
  obtain ⟨k, m, xs, ys, ex, hqx, hqy, q⟩ := q1
  subst ex
  cases r1 with
  | cons r rr =>
    cases rr with
    | cons r' rr =>
      cases rr
      obtain ⟨o1, H1', B1, h1, st1, lt1⟩ := Kd.begins I1 hqx r
      obtain ⟨o2, H2', B2, h2, st2, lt2⟩ := Kd.begins I1 hqy r'
      refine zip_begins2 B1 B2 h1 h2 fun h' hz hTI hTO g1 g2 hsz hk => wpAny_pyIter_zip hz ?_
      have I2 : Inv X pins σ H1 { s1 with heap := h' } := I1.kept (t' := s1.toks) hk
      refine ⟨s1.heap.objs.size + 4, [s1.heap.objs.size + 4, s1.heap.objs.size + 2, s1.heap.objs.size + 3, s1.heap.objs.size, s1.heap.objs.size + 1], _, _, H1, rfl, I2, turn_zipK (k := k) (m := m) (zip_sep2 lt1 lt2) (fun a ha => Nat.ne_of_lt (lt1 a ha)) (fun a ha => Nat.ne_of_lt (Nat.lt_succ_of_lt (lt2 a ha))), ⟨hz, hTI, ⟨_, _, hTO⟩, st1 _ _ g1, st2 _ _ g2⟩, fun c hcm => ?_, q⟩
      have e' : c = s1.heap.objs.size + 4 ∨ c = s1.heap.objs.size + 2 ∨ c = s1.heap.objs.size + 3 ∨ c = s1.heap.objs.size ∨ c = s1.heap.objs.size + 1 := by simpa using hcm
      have hle : s1.heap.objs.size ≤ c := by
        rcases e' with z | z | z | z | z
        · rw [z]; exact Nat.le_add_right _ _
        · rw [z]; exact Nat.le_add_right _ _
        · rw [z]; exact Nat.le_add_right _ _
        · rw [z]; exact Nat.le_refl _
        · rw [z]; exact Nat.le_add_right _ _
      exact I1.fpOk hle (I1.hok.fresh hle)
/-! ### in the evaluator -/
section
variable {c : Glb} {g : G}
/-- a datum's items as they lie -/
theorem kd_of {x : D} {w : V} {xs : List D} (r : Rep c.K (live g) g.H x w) (ok : GOk c g) (h : seqD x = some xs) :
    ∃ (k : Kd), k.v = w ∧ ∀ g', GOk c g' → Lw g g' → ∃ vs, k.vals c.K g'.H vs ∧ Reps c.K (live g') g'.H xs vs := by
  cases r with
  | @tup a ds vs hs hl hr =>
    cases h
    exact ⟨.t a, rfl, fun g' ok' le => ⟨vs, ((le.mo ok).tup hs).sq, hr.lw ok le⟩⟩
  | @lst a ds vs hs hn hl hr =>
    cases h
    exact ⟨.l a, rfl, fun g' ok' le => ⟨vs, (le.mo ok).sql (SqL.of hs) hn, hr.lw ok le⟩⟩
  | @str s o =>
    cases h
    refine ⟨.s (SS s), rfl, fun g' ok' le => ⟨_, rfl, ?_⟩⟩
    have e : (SS s).cps.toList = s := by simp [SS]
    rw [e]
    have aux : ∀ t : List Nat, okS t → Reps c.K (live g') g'.H (t.map fun c => .str [c]) (t.map fun c => .str ⟨#[c]⟩) := by
      intro t
      induction t with
      | nil => intro _; exact .nil
      | cons a t ih => exact fun o => .cons (.str (s := [a]) fun x hx => by
          have e : x = a := by simpa using hx
          subst e
          exact o _ List.mem_cons_self) (ih fun x hx => o x (List.mem_cons_of_mem _ hx))
    exact aux s o
  | non => cases h
  | bl => cases h
  | int => cases h
theorem enmD_len : ∀ (ds : List D) (k : Nat), (enmD ds k).length = ds.length
  | [], _ => rfl
  | x :: xs, k => by simp [enmD, enmD_len xs]
theorem enmD_at : ∀ (ds : List D) (k i : Nat), (enmD ds k)[i]? = (ds[i]?).map fun x => .tup [.int ((k + i : Nat) : Int), x]
  | [], _, _ => rfl
  | x :: xs, k, 0 => by simp [enmD]
  | x :: xs, k, i + 1 => by
    simp only [enmD, List.getElem?_cons_succ]
    rw [enmD_at xs (k + 1) i]
    have e : k + 1 + i = k + (i + 1) := by omega
    rw [e]
theorem zipD_len : ∀ (xs ys : List D), (zipD xs ys).length = min xs.length ys.length
  | [], ys => by simp [zipD]
  | x :: xs, [] => by simp [zipD]
  | x :: xs, y :: ys => by simp [zipD, zipD_len xs ys]
theorem zipD_at : ∀ (xs ys : List D) (i : Nat) (z : D), (zipD xs ys)[i]? = some z → ∃ x y, xs[i]? = some x ∧ ys[i]? = some y ∧ z = .tup [x, y]
  | [], ys, i, z, h => by simp [zipD] at h
  | x :: xs, [], i, z, h => by simp [zipD] at h
  | x :: xs, y :: ys, 0, z, h => by simp [zipD] at h; exact ⟨x, y, rfl, rfl, h.symm⟩
  | x :: xs, y :: ys, i + 1, z, h => by
    simp only [zipD, List.getElem?_cons_succ] at h
    obtain ⟨a, b, h1, h2, h3⟩ := zipD_at xs ys i z h
    exact ⟨a, b, by simpa using h1, by simpa using h2, h3⟩
/-- a new pair -/
theorem pair_ok (ok : GOk c g) {p : Addr} {x y : D} {v w : V} (hp : g.H p = none) (rx : Rep c.K (live g) g.H x v) (ry : Rep c.K (live g) g.H y w) :
    GOk c { g with H := upd g.H p (.tup [v, w]) } ∧ Le g { g with H := upd g.H p (.tup [v, w]) } ∧ Rep c.K (live g) (upd g.H p (.tup [v, w])) (.tup [x, y]) (.ref p) :=
  ⟨gok_laid ok hp, le_laid ok hp, .tup (.inl upd_same) (show 2 ≤ lim by decide) (Reps.mo (mo_laid ok hp) _ _ (.cons rx (.cons ry .nil)))⟩
theorem walks_enm {k : Kd} {xs : List D} (h : ∀ g', GOk c g' → Lw g g' → ∃ vs, k.vals c.K g'.H vs ∧ Reps c.K (live g') g'.H xs vs) : Walks c g (ItE c.K k) (.items (enmD xs 0)) := fun g' ok le => by
  obtain ⟨vs, hv, hr⟩ := h g' ok le
  refine ⟨fun i x hx => ?_, ⟨vs, hv, by rw [enmD_len]; exact hr.length.symm⟩⟩
  rw [enmD_at, Option.map_eq_some_iff] at hx
  obtain ⟨d, hd, rfl⟩ := hx
  obtain ⟨w, hw, rw1⟩ := hr.get hd
  refine ⟨⟨vs, w, hv, hw⟩, fun w' H' hy => ?_⟩
  obtain ⟨T, x', rfl, hT, rfl, hy⟩ := hy
  have e := hy vs hv
  rw [hw] at e
  cases e
  rw [Nat.zero_add]
  exact pair_ok ok hT (.int _) rw1
theorem walks_zip {k m : Kd} {xs ys : List D} (h : ∀ g', GOk c g' → Lw g g' → ∃ vs, k.vals c.K g'.H vs ∧ Reps c.K (live g') g'.H xs vs) (h2 : ∀ g', GOk c g' → Lw g g' → ∃ vs, m.vals c.K g'.H vs ∧ Reps c.K (live g') g'.H ys vs) : Walks c g (ItZ c.K k m) (.items (zipD xs ys)) := fun g' ok le => by
  obtain ⟨vs, hv, hr⟩ := h g' ok le
  obtain ⟨us, hu, hs⟩ := h2 g' ok le
  refine ⟨fun i x hx => ?_, ⟨vs, us, hv, hu, ?_⟩⟩
  · obtain ⟨a, b, ha, hb, rfl⟩ := zipD_at xs ys i x hx
    obtain ⟨w, hw, rw1⟩ := hr.get ha
    obtain ⟨w2, hw2, rw2⟩ := hs.get hb
    refine ⟨⟨vs, us, w, w2, hv, hu, hw, hw2⟩, fun w' H' hy => ?_⟩
    obtain ⟨T, x', y', rfl, hT, rfl, hy1, hy2⟩ := hy
    have e := hy1 vs hv
    have e2 := hy2 us hu
    rw [hw] at e
    rw [hw2] at e2
    cases e
    cases e2
    exact pair_ok ok hT rw1 rw2
  · rw [zipD_len, ← hr.length, ← hs.length]
    omega
end
section
variable {c : Glb} {U : EV.Env} {W : WX} {X : Cx} {e a b tg : Expr} {l la lb : LE} {es : List Expr} {pos p p2 tpos : Pos} {kk : Nat}
theorem si_enm (hK : X.K = c.K) (hg : Gl X "enumerate") (hm : X.mg "enumerate" = none) (hp : plainX a = true) (ha : PE X a (tEv c U W la)) : PI X (.Tuple es kk tpos) (.Call (.Name "enumerate" p) [a] [] pos) (tIv c U W (.enm la)) :=
  PI.imp (pi_enumK hg hm (pa_cons ha pa_nil (star_cons hp)) (star_cons hp)) fun σ H R => by
  rintro ⟨g, loc, rfl, ok, lo, out⟩
  refine ⟨g, loc, rfl, ok, lo, (Out.bind out).imp fun v g1 ⟨le1, ok1, out1⟩ w rw1 => ?_⟩
  cases rw1 with
  | d r =>
    obtain ⟨xs, hx, q⟩ := Out.opt out1
    obtain ⟨k, rfl, hk⟩ := kd_of r ok1 hx
    obtain ⟨vs, hv, _⟩ := hk g1 ok1 (Lw.refl g1)
    rw [hK]
    exact ⟨k, vs, rfl, hv, Out.here q ok1 _ (walks_enm hk)⟩
  | _ => exact False.elim out1
theorem si_zip (hK : X.K = c.K) (hg : Gl X "zip") (hm : X.mg "zip" = none) (hp : plainX a = true) (hp2 : plainX b = true) (ha : PE X a (tEv c U W la)) (hb : PE X b (tEv c U W lb)) : PI X (.Tuple es kk tpos) (.Call (.Name "zip" p) [a, b] [] pos) (tIv c U W (.zip la lb)) :=
  PI.imp (pi_zipK hg hm (pa_cons ha (pa_cons hb pa_nil (star_cons hp2)) (star_cons hp)) (star_cons hp) (star_any (by rw [List.all_cons, hp2]; rfl) _)) fun σ H R => by
  rintro ⟨g, loc, rfl, ok, lo, out⟩
  refine ⟨g, loc, rfl, ok, lo, (Out.bind out).imp fun v g1 ⟨le1, ok1, out1⟩ w rw1 => ?_⟩
  refine ⟨g1, loc, rfl, ok1, lo.le ok le1, (Out.bind out1).imp fun v2 g2 ⟨le2, ok2, out2⟩ w2 rw2 => ?_⟩
  cases rw1 with
  | d r =>
    cases rw2 with
    | d r2 =>
      obtain ⟨xs, hx, q⟩ := Out.opt out2
      obtain ⟨ys, hy, q⟩ := Out.opt q
      obtain ⟨k, rfl, hk⟩ := kd_of (g := g2) (r.le ok1 le2) ok2 hx
      obtain ⟨m, rfl, hm⟩ := kd_of r2 ok2 hy
      obtain ⟨vs, hv, _⟩ := hk g2 ok2 (Lw.refl g2)
      obtain ⟨us, hu, _⟩ := hm g2 ok2 (Lw.refl g2)
      rw [hK]
      exact ⟨k, m, vs, us, rfl, hv, hu, Out.here q ok2 _ (walks_zip hk hm)⟩
    | _ => exact False.elim out2
  | _ => cases rw2 <;> exact False.elim out2
end
end EV
end

section
set_option Elab.async false
set_option linter.all false
set_option maxRecDepth 100000
set_option maxHeartbeats 1000000
/-! EV12: targets, comprehensions -/
namespace EV
open PySem PySem.Spec PyProof.Rows L2
/-! ### targets -/
def slotsT : LT → List Nat
  | .nm i => [i]
  | .tp a b => slotsT a ++ slotsT b
  | .tp3 a b c => slotsT a ++ (slotsT b ++ slotsT c)
theorem wipe_at (σ : L2.St) : ∀ (vs : List Nat) (j : Nat), (wipe σ vs)[j]? = if j ∈ vs ∧ j < σ.length then some none else σ[j]?
  | [], j => by simp [wipe]
  | v :: vs, j => by
    unfold wipe
    by_cases h : v = j
    · subst h
      by_cases hl : v < σ.length
      · rw [List.getElem?_set_self (by rw [wipe_length]; exact hl), if_pos ⟨List.mem_cons_self, hl⟩]
      · rw [if_neg (fun z => hl z.2), List.getElem?_eq_none (by rw [List.length_set, wipe_length]; omega), List.getElem?_eq_none (by omega)]
    · rw [List.getElem?_set_ne h, wipe_at σ vs j]
      have e : (j ∈ v :: vs) ↔ j ∈ vs := by
        simp only [List.mem_cons]
        exact ⟨fun z => z.elim (fun z => absurd z.symm h) id, .inr⟩
      simp only [e]
theorem wipe_set {σ : L2.St} {i : Nat} {x : Option V} {vs : List Nat} (h : i ∈ vs) : wipe (σ.set i x) vs = wipe σ vs := by
  apply List.ext_getElem?
  intro j
  rw [wipe_at, wipe_at, List.length_set]
  by_cases hj : j ∈ vs ∧ j < σ.length
  · rw [if_pos hj, if_pos hj]
  · rw [if_neg hj, if_neg hj]
    by_cases e : i = j
    · subst e
      have hl : ¬ i < σ.length := fun z => hj ⟨h, z⟩
      rw [List.getElem?_eq_none (by rw [List.length_set]; omega), List.getElem?_eq_none (by omega)]
    · rw [List.getElem?_set_ne e]
theorem wipeL_at : ∀ (vs : List Nat) (l : Loc) (j : Nat), (wipeL l vs)[j]? = if j ∈ vs ∧ j < l.length then some none else l[j]?
  | [], l, j => by simp [wipeL]
  | v :: vs, l, j => by
    unfold wipeL
    rw [wipeL_at vs (l.set v none) j, List.length_set]
    by_cases hj : j ∈ vs ∧ j < l.length
    · rw [if_pos hj, if_pos ⟨List.mem_cons_of_mem _ hj.1, hj.2⟩]
    · rw [if_neg hj]
      by_cases h : v = j
      · subst h
        by_cases hl : v < l.length
        · rw [List.getElem?_set_self hl, if_pos ⟨List.mem_cons_self, hl⟩]
        · rw [if_neg (fun z => hl z.2), List.getElem?_eq_none (by rw [List.length_set]; omega), List.getElem?_eq_none (by omega)]
      · rw [List.getElem?_set_ne h]
        have e : ¬ (j ∈ v :: vs ∧ j < l.length) := fun z => hj ⟨by
          rcases List.mem_cons.mp z.1 with q | q
          · exact absurd q.symm h
          · exact q, z.2⟩
        rw [if_neg e]
theorem LocOk.wipe {c : Glb} {g : G} {l : Loc} {σ : L2.St} (r : LocOk c g l σ) (vs : List Nat) : LocOk c g (wipeL l vs) (wipe σ vs) := by
  have hlen : ∀ (vs : List Nat) (l : Loc), (wipeL l vs).length = l.length := by
    intro vs
    induction vs with
    | nil => intro l; rfl
    | cons v vs ih => intro l; unfold wipeL; rw [ih, List.length_set]
  refine ⟨by rw [hlen, wipe_length, r.len], fun i v h => ?_⟩
  rw [wipeL_at] at h
  rw [wipe_at]
  by_cases hi : i ∈ vs ∧ i < l.length
  · rw [if_pos hi] at h; cases h
  · rw [if_neg hi] at h
    rw [if_neg (by rw [← r.len]; exact hi)]
    exact r.at_ i v h
def tG (c : Glb) (t : LT) : TG := fun v σ H Q => ∃ (g : G) (loc loc' : Loc) (x : D), g.H = H ∧ GOk c g ∧ LocOk c g loc σ ∧ Rep c.K (live g) H x v ∧ setT t x loc = some loc' ∧ ∀ σ', LocOk c g loc' σ' → (∀ vs, (∀ i ∈ slotsT t, i ∈ vs) → L2.wipe σ' vs = L2.wipe σ vs) → Q σ' H
theorem PG.imp {X : Cx} {tg : Expr} {t t' : TG} (h : PG X tg t) (i : ∀ v σ H Q, t' v σ H Q → t v σ H Q) : PG X tg t' := ⟨fun pins s σ H v u Q I r q => h.run pins s σ H v u Q I r (i _ _ _ _ q)⟩
def plainT : Expr → Bool
  | .Name .. => true
  | .Tuple .. => true
  | _ => false
theorem plainT_each {e : Expr} {es : List Expr} {env : PySem.Env} (h : plainT e = true) : assignEach (e :: es) env = (false, assign e env) :: assignEach es env := by
  cases e <;> first | rfl | cases h
section
variable {c : Glb} {X : Cx} {a b d : Expr} {ta tb td : LT} {pos : Pos} {kk : Nat}
theorem sg_nm {i : Nat} {x : Str} (hN : X.N.Nodup) (hi : X.N[i]? = some x) (hx : L2.Loc X.env.scope x) (hf : X.fn x = true ∨ X.env.scope.names.lookup x = some .local) : PG X (.Name x pos) (tG c (.nm i)) := PG.imp (pg_name hN hi hx hf) fun v σ H Q => by
  rintro ⟨g, loc, loc', x, rfl, ok, lo, r, hs, q⟩
  cases hs
  exact q _ (lo.set (.d r) i) fun vs h => wipe_set (h i (by simp [slotsT]))
theorem rep2 {g : G} {K : PySem.W.Frag} {x y : D} {w : V} (r : Rep K (live g) g.H (.tup [x, y]) w) : ∃ a v1 v2, w = .ref a ∧ SqT K g.H a [v1, v2] ∧ Rep K (live g) g.H x v1 ∧ Rep K (live g) g.H y v2 := by
  cases r with
  | tup hs hl hr =>
    cases hr with
    | cons r1 hr =>
      cases hr with
      | cons r2 hr => cases hr; exact ⟨_, _, _, rfl, hs.sq, r1, r2⟩
theorem rep3 {g : G} {K : PySem.W.Frag} {x y z : D} {w : V} (r : Rep K (live g) g.H (.tup [x, y, z]) w) : ∃ a v1 v2 v3, w = .ref a ∧ SqT K g.H a [v1, v2, v3] ∧ Rep K (live g) g.H x v1 ∧ Rep K (live g) g.H y v2 ∧ Rep K (live g) g.H z v3 := by
  cases r with
  | tup hs hl hr =>
    cases hr with
    | cons r1 hr =>
      cases hr with
      | cons r2 hr =>
        cases hr with
        | cons r3 hr => cases hr; exact ⟨_, _, _, _, rfl, hs.sq, r1, r2, r3⟩
theorem sg_tp (hK : X.K = c.K) (hc : X.calm = true) (pa : plainT a = true) (pb : plainT b = true) (ha : PG X a (tG c ta)) (hb : PG X b (tG c tb)) : PG X (.Tuple [a, b] kk pos) (tG c (.tp ta tb)) :=
  PG.imp (pg_tup hc (pgs_cons ha (pgs_cons hb pgs_nil (by rw [plainT_each pb]; rfl)) (by rw [plainT_each pa]; rfl)) (n := 2) (by rw [plainT_each pa, plainT_each pb]; rfl) (by rw [plainT_each pa, plainT_each pb]; rfl)) fun v σ H Q => by
  rintro ⟨g, loc, loc', x, rfl, ok, lo, r, hs, q⟩
  have : ∃ x1 x2, x = .tup [x1, x2] ∧ (setT ta x1 loc).bind (setT tb x2) = some loc' := by
    unfold setT at hs
    split at hs
    · cases ‹LT.tp ta tb = LT.nm _›
    · rename_i e; cases e; exact ⟨_, _, rfl, hs⟩
    · cases ‹LT.tp ta tb = LT.tp3 _ _ _›
    · cases hs
  obtain ⟨x1, x2, rfl, hs2⟩ := this
  rw [Option.bind_eq_some_iff] at hs2
  obtain ⟨l1, s1, s2⟩ := hs2
  obtain ⟨p, v1, v2, rfl, hq, r1, r2⟩ := rep2 r
  rw [hK]
  refine ⟨p, [v1, v2], rfl, hq, rfl, v1, [v2], rfl, g, loc, l1, x1, rfl, ok, lo, r1, s1, fun σ1 lo1 w1 => ?_⟩
  refine ⟨v2, [], rfl, g, l1, loc', x2, rfl, ok, lo1, r2, s2, fun σ2 lo2 w2 => ⟨rfl, q σ2 lo2 fun vs h => ?_⟩⟩
  rw [w2 vs fun i hi => h i (by simp [slotsT, hi]), w1 vs fun i hi => h i (by simp [slotsT, hi])]
theorem sg_tp3 (hK : X.K = c.K) (hc : X.calm = true) (pa : plainT a = true) (pb : plainT b = true) (pd : plainT d = true) (ha : PG X a (tG c ta)) (hb : PG X b (tG c tb)) (hd : PG X d (tG c td)) : PG X (.Tuple [a, b, d] kk pos) (tG c (.tp3 ta tb td)) :=
  PG.imp (pg_tup hc (pgs_cons ha (pgs_cons hb (pgs_cons hd pgs_nil (by rw [plainT_each pd]; rfl)) (by rw [plainT_each pb]; rfl)) (by rw [plainT_each pa]; rfl)) (n := 3) (by rw [plainT_each pa, plainT_each pb, plainT_each pd]; rfl) (by rw [plainT_each pa, plainT_each pb, plainT_each pd]; rfl)) fun v σ H Q => by
  rintro ⟨g, loc, loc', x, rfl, ok, lo, r, hs, q⟩
  have : ∃ x1 x2 x3, x = .tup [x1, x2, x3] ∧ ((setT ta x1 loc).bind (setT tb x2)).bind (setT td x3) = some loc' := by
    unfold setT at hs
    split at hs
    · cases ‹LT.tp3 ta tb td = LT.nm _›
    · cases ‹LT.tp3 ta tb td = LT.tp _ _›
    · rename_i e; cases e; exact ⟨_, _, _, rfl, hs⟩
    · cases hs
  obtain ⟨x1, x2, x3, rfl, hs2⟩ := this
  rw [Option.bind_eq_some_iff] at hs2
  obtain ⟨l2, s12, s3⟩ := hs2
  rw [Option.bind_eq_some_iff] at s12
  obtain ⟨l1, s1, s2⟩ := s12
  obtain ⟨p, v1, v2, v3, rfl, hq, r1, r2, r3⟩ := rep3 r
  rw [hK]
  refine ⟨p, [v1, v2, v3], rfl, hq, rfl, v1, [v2, v3], rfl, g, loc, l1, x1, rfl, ok, lo, r1, s1, fun σ1 lo1 w1 => ?_⟩
  refine ⟨v2, [v3], rfl, g, l1, l2, x2, rfl, ok, lo1, r2, s2, fun σ2 lo2 w2 => ?_⟩
  refine ⟨v3, [], rfl, g, l2, loc', x3, rfl, ok, lo2, r3, s3, fun σ3 lo3 w3 => ⟨rfl, q σ3 lo3 fun vs h => ?_⟩⟩
  rw [w3 vs fun i hi => h i (by simp [slotsT, hi]), w2 vs fun i hi => h i (by simp [slotsT, hi]), w1 vs fun i hi => h i (by simp [slotsT, hi])]
end
/-! ### the new list, hidden -/
structure LeX (d : Addr) (g g' : G) : Prop where
  pre : g.ρ <+: g'.ρ
  hid : g'.hid = d :: g.hid
  hidk : ∀ a ∈ g.hid, g'.H a = g.H a
  keep : ∀ a o, g.H a = some o → ¬ live g a → (∀ ps, o ≠ .tbl ps) → g'.H a = some o ∧ ¬ live g' a
  grow : ∀ a, g.H a ≠ none → g'.H a ≠ none
section
variable {c : Glb} {g g' g2 : G} {d : Addr}
theorem LeX.lw (l : LeX d g g') : Lw g g' := ⟨l.pre, l.keep⟩
theorem LeX.le (a : LeX d g g') (b : Le g' g2) : LeX d g g2 :=
  ⟨a.pre.trans b.pre, b.hid.trans a.hid, fun x h => (b.hidk x (by rw [a.hid]; exact List.mem_cons_of_mem _ h)).trans (a.hidk x h), fun x o h n t => let ⟨h1, h2⟩ := a.keep x o h n t; b.keep x o h1 h2 t, fun x h => b.grow x (a.grow x h)⟩
/-- the new list is laid and hidden -/
theorem hide_ok {o : HO} (ho : (∃ xs, o = .lst xs) ∨ (∃ kvs, o = .dK kvs) ∨ ∃ kvs, o = .dT kvs) (ok : GOk c g) (hd : g.H d = none) : GOk c ⟨d :: g.hid, g.ρ, g.S, upd g.H d o⟩ ∧ LeX d g ⟨d :: g.hid, g.ρ, g.S, upd g.H d o⟩ := by
  have lv : ∀ a, live ⟨d :: g.hid, g.ρ, g.S, upd g.H d o⟩ a ↔ a = d ∨ live g a := fun a => live_hide (g := ⟨g.hid, g.ρ, g.S, upd g.H d o⟩) d a
  have m : Mo (live g) g.H (live ⟨d :: g.hid, g.ρ, g.S, upd g.H d o⟩) (upd g.H d o) := ⟨fun a u e nl _ => ⟨by rw [upd_ne (ne_of_none e hd)]; exact e, fun z => (((lv a).mp z).elim (fun z => ne_of_none e hd z) nl)⟩, ok.lv⟩
  have nr : d ∉ g.ρ := fun z => by
    obtain ⟨i, e⟩ := List.mem_iff_getElem?.mp z
    exact ok.there e hd
  refine ⟨⟨ok.len, ok.nd, fun a ha => ?_, fun a ha => ?_, fun n a x h1 h2 => ?_, ok.tabs.ext fun b u e => by show upd g.H d _ b = _; rw [upd_ne (ne_of_none e hd)]; exact e⟩, ⟨List.prefix_refl _, rfl, fun a ha => ?_, m.keep, fun a ha => ?_⟩⟩
  · rcases List.mem_cons.mp ha with z | z
    · rw [z]; exact nr
    · exact ok.apart a z
  · rcases List.mem_cons.mp ha with z | z
    · rw [z]
      rcases ho with ⟨xs, rfl⟩ | ⟨xs, rfl⟩ | ⟨xs, rfl⟩
      · exact .inl ⟨_, upd_same⟩
      · exact .inr (.inl ⟨_, upd_same⟩)
      · exact .inr (.inr ⟨_, upd_same⟩)
    · exact hid_same (ok.hid a z) (upd_nn hd (ok.hidn z))
  · refine CellOk.mo m (fun z => ?_) (ok.cell n a x h1 h2)
    exact upd_ne fun z => nr (z ▸ List.mem_of_getElem? h1)
  · exact upd_nn hd (ok.hidn ha)
  · show upd g.H d _ a ≠ none
    by_cases e : a = d
    · rw [e, upd_same]; simp
    · rw [upd_ne e]; exact ha
/-- it is written -/
theorem push_ok (ok : GOk c g') (l : LeX d g g') (hd : g.H d = none) {xs ys : List V} (ed : g'.H d = some (.lst ys)) : GOk c { g' with H := upd g'.H d (.lst xs) } ∧ LeX d g { g' with H := upd g'.H d (.lst xs) } ∧ Mo (live g') g'.H (live g') (upd g'.H d (.lst xs)) := by
  have hm : d ∈ g'.hid := by rw [l.hid]; exact List.mem_cons_self
  have la : live g' d := .inl hm
  have m : Mo (live g') g'.H (live g') (upd g'.H d (.lst xs)) := ⟨fun a u e nl _ => ⟨by rw [upd_ne (fun z => nl (by rw [z]; exact la))]; exact e, nl⟩, ok.lv⟩
  refine ⟨⟨ok.len, ok.nd, ok.apart, fun a ha => ?_, fun n a x h1 h2 => ?_, fun p hp => ?_⟩, ⟨l.pre, l.hid, fun a ha => ?_, fun a u e nl t => ?_, fun a ha => ?_⟩, m⟩
  · by_cases e : a = d
    · rw [e]; exact .inl ⟨_, upd_same⟩
    · exact hid_same (ok.hid a ha) (upd_ne e)
  · refine CellOk.mo m (fun z => ?_) (ok.cell n a x h1 h2)
    exact upd_ne fun z => ok.apart d hm (z ▸ List.mem_of_getElem? h1)
  · obtain ⟨ps, q1, q2, q3⟩ := ok.tabs p hp
    have ne : ∀ b u, g'.H b = some u → (∀ xs, u ≠ .lst xs) → b ≠ d := fun b u e n1 z => by
      subst z
      rw [ed] at e
      cases e
      exact n1 _ rfl
    refine ⟨ps, ?_, q2, fun pos cv hc => ?_⟩
    · show upd g'.H d _ _ = _
      rw [upd_ne (ne _ _ q1 (fun _ z => by cases z))]; exact q1
    · obtain ⟨c0, z1, z2⟩ := q3 pos cv hc
      refine ⟨c0, z1, ?_⟩
      show upd g'.H d _ _ = _
      rw [upd_ne (ne _ _ z2 (fun _ z => by unfold LamX.CodeO at z; cases z))]; exact z2
  · show upd g'.H d _ a = _
    have e := ok.hidn (a := a) (by rw [l.hid]; exact List.mem_cons_of_mem _ ha)
    rw [upd_ne (fun z => by subst z; exact e ((l.hidk _ ha).trans hd))]
    exact l.hidk a ha
  · obtain ⟨q1, q2⟩ := l.keep a u e nl t
    exact ⟨by show upd g'.H d _ a = _; rw [upd_ne (fun z => q2 (by rw [z]; exact la))]; exact q1, q2⟩
  · show upd g'.H d _ a ≠ none
    by_cases e : a = d
    · rw [e, upd_same]; simp
    · rw [upd_ne e]; exact l.grow a ha
/-- it is taken out again: what is new, as a display's -/
theorem out_ok (ok : GOk c g') (l : LeX d g g') (hd : g.H d = none) {o : HO} (ho : (∃ xs, o = .lst xs) ∨ (∃ kvs, o = .dK kvs) ∨ ∃ kvs, o = .dT kvs) (ed : g'.H d = some o) : GOk c ⟨g.hid, g'.ρ, g'.S, fun a => if a = d then none else g'.H a⟩ ∧ Le g ⟨g.hid, g'.ρ, g'.S, fun a => if a = d then none else g'.H a⟩ ∧
    Mo (live g') g'.H (live ⟨g.hid, g'.ρ, g'.S, fun a => if a = d then none else g'.H a⟩) (fun a => if a = d then none else g'.H a) := by
  have hm : d ∈ g'.hid := by rw [l.hid]; exact List.mem_cons_self
  have la : live g' d := .inl hm
  have sub : ∀ a, live ⟨g.hid, g'.ρ, g'.S, fun a => if a = d then none else g'.H a⟩ a → live g' a := fun a z => by
    rcases z with z | z
    · exact .inl (by rw [l.hid]; exact List.mem_cons_of_mem _ z)
    · exact .inr z
  have m : Mo (live g') g'.H (live ⟨g.hid, g'.ρ, g'.S, fun a => if a = d then none else g'.H a⟩) (fun a => if a = d then none else g'.H a) := ⟨fun a u e nl _ => ⟨by
    show (if a = d then none else g'.H a) = _
    rw [if_neg (fun z => nl (by rw [z]; exact la))]; exact e, fun z => nl (sub a z)⟩, ok.lv⟩
  have nh : d ∉ g.hid := fun z => by
    have := l.hidk d z
    rw [hd, ed] at this; cases this
  refine ⟨⟨ok.len, ok.nd, fun a ha => ok.apart a (by rw [l.hid]; exact List.mem_cons_of_mem _ ha), fun a ha => ?_, fun n a x h1 h2 => ?_, fun p hp => ?_⟩, ⟨l.pre, rfl, fun a ha => ?_, fun a u e nl t => ?_, fun a ha => ?_⟩, m⟩
  · exact hid_same (ok.hid a (by rw [l.hid]; exact List.mem_cons_of_mem _ ha)) (if_neg fun z => nh (by rw [← z]; exact ha))
  · refine CellOk.mo m (fun z => ?_) (ok.cell n a x h1 h2)
    show (if a = d then none else g'.H a) = _
    exact if_neg fun z => ok.apart d hm (by rw [← z]; exact List.mem_of_getElem? h1)
  · obtain ⟨ps, q1, q2, q3⟩ := ok.tabs p hp
    have ne : ∀ b u, g'.H b = some u → (∀ xs, u ≠ .lst xs) → (∀ xs, u ≠ .dK xs) → (∀ xs, u ≠ .dT xs) → b ≠ d := fun b u e n1 n2 n3 z => by
      subst z
      rw [ed] at e
      cases e
      rcases ho with ⟨xs, rfl⟩ | ⟨xs, rfl⟩ | ⟨xs, rfl⟩
      · exact n1 _ rfl
      · exact n2 _ rfl
      · exact n3 _ rfl
    refine ⟨ps, ?_, q2, fun pos cv hc => ?_⟩
    · show (if _ = d then none else g'.H _) = _
      rw [if_neg (ne _ _ q1 (fun _ z => by cases z) (fun _ z => by cases z) (fun _ z => by cases z))]; exact q1
    · obtain ⟨c0, z1, z2⟩ := q3 pos cv hc
      refine ⟨c0, z1, ?_⟩
      show (if _ = d then none else g'.H _) = _
      rw [if_neg (ne _ _ z2 (fun _ z => by unfold LamX.CodeO at z; cases z) (fun _ z => by unfold LamX.CodeO at z; cases z) (fun _ z => by unfold LamX.CodeO at z; cases z))]; exact z2
  · show (if a = d then none else g'.H a) = _
    rw [if_neg (fun z => nh (by rw [← z]; exact ha))]; exact l.hidk a ha
  · obtain ⟨q1, q2⟩ := l.keep a u e nl t
    exact m.keep a u q1 q2 t
  · show (if a = d then none else g'.H a) ≠ none
    rw [if_neg (fun z => ha (by rw [z]; exact hd))]; exact l.grow a ha
/-- it stays behind, unhidden: nothing looks at it -/
theorem left_ok (ok : GOk c g') (l : LeX d g g') (hd : g.H d = none) : GOk c ⟨g.hid, g'.ρ, g'.S, g'.H⟩ ∧ Le g ⟨g.hid, g'.ρ, g'.S, g'.H⟩ := by
  have sub : ∀ a, live ⟨g.hid, g'.ρ, g'.S, g'.H⟩ a → live g' a := fun a z => by
    rcases z with z | z
    · exact .inl (by rw [l.hid]; exact List.mem_cons_of_mem _ z)
    · exact .inr z
  have m : Mo (live g') g'.H (live ⟨g.hid, g'.ρ, g'.S, g'.H⟩) g'.H := ⟨fun a u e nl _ => ⟨e, fun z => nl (sub a z)⟩, ok.lv⟩
  refine ⟨⟨ok.len, ok.nd, fun a ha => ok.apart a (by rw [l.hid]; exact List.mem_cons_of_mem _ ha), fun a ha => ok.hid a (by rw [l.hid]; exact List.mem_cons_of_mem _ ha), fun n a x h1 h2 => CellOk.mo m (fun _ => rfl) (ok.cell n a x h1 h2), ok.tabs⟩, ⟨l.pre, rfl, l.hidk, fun a u e nl t => ?_, l.grow⟩⟩
  obtain ⟨q1, q2⟩ := l.keep a u e nl t
  exact ⟨q1, fun z => q2 (sub a z)⟩
theorem Out.hide {α : Type} {W : WX} {σ : L2.St} {r : R α} {k : α → G → Prop} {o : HO} (ho : (∃ xs, o = .lst xs) ∨ (∃ kvs, o = .dK kvs) ∨ ∃ kvs, o = .dT kvs) (ok : GOk c g) (hd : g.H d = none) (h : Out c g W σ r k) :
    Out c ⟨d :: g.hid, g.ρ, g.S, upd g.H d o⟩ W σ r (fun a g2 => LeX d g g2 ∧ GOk c g2 ∧ g2.H d = some o ∧ k a ⟨g.hid, g2.ρ, g2.S, fun a => if a = d then none else g2.H a⟩) := by
  obtain ⟨okH, lH⟩ := hide_ok ho ok hd
  cases r with
  | ok a S' =>
    intro ρ' H' ok2 le2
    have l2 := lH.le le2
    have ed : H' d = some o := (le2.hidk d List.mem_cons_self).trans upd_same
    obtain ⟨o1, o2, _⟩ := out_ok ok2 l2 hd ho ed
    exact ⟨l2, ok2, ed, h _ _ o1 o2⟩
  | exc n xs S' =>
    intro ρ' H' d' ok2 le2 ex
    obtain ⟨o1, o2⟩ := left_ok ok2 (lH.le le2) hd
    exact h ρ' H' d' o1 o2 ex
  | stuck => exact h
end
/-! ### comprehensions -/
def F0 : WX := fun _ _ _ _ => False
def tCv (c : Glb) (U : EV.Env) (W : WX) (l : LO) : TT := fun σ H Q => ∃ (g : G) (loc : Loc), g.H = H ∧ GOk c g ∧ LocOk c g loc σ ∧ Out c g W σ (evC U l loc g.S) (fun b g' => Q b g'.H)
theorem PTs.imp {X : Cx} {e : List Expr} {t t' : TT} (h : PTs X e t) (i : ∀ σ H Q, t' σ H Q → t σ H Q) : PTs X e t' := ⟨fun pins s σ H Q I q => h.run pins s σ H Q I (i _ _ _ q)⟩
section
variable {c : Glb} {U : EV.Env} {W : WX} {X : Cx} {e : Expr} {l : LE}
theorem sc_no : PTs X [] (tCv c U W .no) := PTs.imp pts_nil fun σ H Q => by
  rintro ⟨g, loc, rfl, ok, lo, out⟩
  exact Out.here out ok
theorem sc_yes (h : PT X e (tTv c U W l)) : PTs X [e] (tCv c U W (.yes l)) := PTs.imp (pts_one h) fun σ H Q => by
  rintro ⟨g, loc, rfl, ok, lo, out⟩
  refine ⟨g, loc, rfl, ok, lo, (Out.bind out).imp fun v g1 ⟨le1, ok1, out1⟩ => ?_⟩
  obtain ⟨b, hb, q⟩ := Out.opt out1
  exact ⟨b, hb, Out.here q ok1⟩
end
def stepC (t : LT) (c : Loc → Sto → R Bool) (e : Loc → Sto → R Vl) (l : Loc) (x : D) (acc : List D) (S : Sto) (K : List D → Sto → R (List D)) : R (List D) :=
  match setT t x l with
  | none => .stuck
  | some l' => match c l' S with
    | .ok true S1 => match e l' S1 with
      | .ok v S2 => match take S2 v with
        | some (y, S3) => if acc.length < lim then K (acc ++ [y]) S3 else .stuck
        | none => .stuck
      | _ => .stuck
    | .ok false S1 => K acc S1
    | _ => .stuck
/-- one turn -/
theorem comp_turn {c : Glb} {U : EV.Env} {W : WX} {t : LT} {lc : LO} {le : LE} {vs : List Nat} (hown : ∀ i ∈ slotsT t, i ∈ vs) {g1 g' : G} {d : Addr} {loc : Loc} {σ : L2.St} {x : D} {w : V} {acc : List D} {us : List V} {K : List D → Sto → R (List D)} {k : List D → G → Prop} {Nx : Hp → Prop}
    (hd : g1.H d = none) (ok1 : GOk c g1) (lo1 : LocOk c g1 loc σ) (ok : GOk c g') (l : LeX d g1 g') (rx : Rep c.K (live g') g'.H x w) (hD : g'.H d = some (.lst us)) (hl : acc.length ≤ lim) (ra : Reps c.K (live g') g'.H acc us)
    (out : Out c g1 W σ (stepC t (evC U lc) (evE U le) (wipeL loc vs) x acc g'.S K) k)
    (nx : ∀ (g2 : G) (acc2 : List D) (us2 : List V), GOk c g2 → LeX d g1 g2 → g2.H d = some (.lst us2) → acc2.length ≤ lim → Reps c.K (live g2) g2.H acc2 us2 → Out c g1 W σ (K acc2 g2.S) k → Nx g2.H) :
    tG c t w (L2.wipe σ vs) g'.H fun σ2 H2 => L2.wipe σ2 vs = L2.wipe σ vs ∧ tCv c U F0 lc σ2 H2 fun b H3 => if b = true then tEv c U F0 le σ2 H3 fun y H4 => ∃ acc, H4 d = some (.lst acc) ∧ acc.length < sizeLine ∧ Nx (upd H4 d (.lst (acc ++ [y]))) else Nx H3 := by
  have lo' : LocOk c g' (wipeL loc vs) (L2.wipe σ vs) := (LocOk.wipe (c := c) (g := g') ⟨lo1.len, fun i v q => by
    obtain ⟨w, h1, h2⟩ := lo1.at_ i v q
    exact ⟨w, h1, h2.lw ok1 l.lw⟩⟩ vs)
  unfold stepC at out
  cases hs : setT t x (wipeL loc vs) with
  | none => rw [hs] at out; exact out.elim
  | some l' =>
    rw [hs] at out
    refine ⟨g', wipeL loc vs, l', x, rfl, ok, lo', rx, hs, fun σ2 lo2 hw => ⟨?_, ?_⟩⟩
    · rw [hw vs hown]
      apply List.ext_getElem?
      intro j
      rw [wipe_at, wipe_length, wipe_at]
      by_cases hj : j ∈ vs ∧ j < σ.length
      · rw [if_pos hj, if_pos hj]
      · rw [if_neg hj]
    refine ⟨g', l', rfl, ok, lo2, ?_⟩
    have out : Out c g1 W σ (match evC U lc l' g'.S with | .ok true S1 => (match evE U le l' S1 with | .ok v S2 => (match take S2 v with | some (y, S3) => if acc.length < lim then K (acc ++ [y]) S3 else .stuck | none => .stuck) | _ => .stuck) | .ok false S1 => K acc S1 | _ => .stuck) k := out
    cases hc : evC U lc l' g'.S with
    | exc n xs S' => rw [hc] at out; exact out.elim
    | stuck => rw [hc] at out; exact out.elim
    | ok b S1 =>
      rw [hc] at out
      intro ρ2 H2 ok2 le2
      have l2 : LeX d g1 ⟨g'.hid, ρ2, S1, H2⟩ := l.le le2
      have hD2 : H2 d = some (.lst us) := (le2.hidk d (by rw [l.hid]; exact List.mem_cons_self)).trans hD
      cases b with
      | false => exact nx ⟨g'.hid, ρ2, S1, H2⟩ acc us ok2 l2 hD2 hl (ra.le ok le2) out
      | true =>
        simp only [if_true]
        refine ⟨⟨g'.hid, ρ2, S1, H2⟩, l', rfl, ok2, lo2.le ok le2, ?_⟩
        have out : Out c g1 W σ (match evE U le l' S1 with | .ok v S2 => (match take S2 v with | some (y, S3) => if acc.length < lim then K (acc ++ [y]) S3 else .stuck | none => .stuck) | _ => .stuck) k := out
        show Out c _ F0 σ2 (evE U le l' S1) _
        cases he : evE U le l' S1 with
        | exc n xs S' => rw [he] at out; exact out.elim
        | stuck => rw [he] at out; exact out.elim
        | ok v S2 =>
          rw [he] at out
          intro ρ3 H3 ok3 le3 y ry
          have l3 : LeX d g1 ⟨g'.hid, ρ3, S2, H3⟩ := l2.le le3
          have hD3 : H3 d = some (.lst us) := (le3.hidk d (by show d ∈ g'.hid; rw [l.hid]; exact List.mem_cons_self)).trans hD2
          have out : Out c g1 W σ (match take S2 v with | some (y, S3) => if acc.length < lim then K (acc ++ [y]) S3 else .stuck | none => .stuck) k := out
          cases ht : take S2 v with
          | none => rw [ht] at out; exact out.elim
          | some p =>
            obtain ⟨z, S3⟩ := p
            rw [ht] at out
            have out : Out c g1 W σ (if acc.length < lim then K (acc ++ [z]) S3 else .stuck) k := out
            split at out
            · rename_i hlt
              obtain ⟨ok4, le4, r4⟩ := take_ok (g := ⟨g'.hid, ρ3, S2, H3⟩) ok3 ry ht
              have l4 : LeX d g1 ⟨g'.hid, ρ3, S3, H3⟩ := l3.le le4
              have ra4 : Reps c.K (live ⟨g'.hid, ρ3, S3, H3⟩) H3 acc us := Reps.le (g := ⟨g'.hid, ρ3, S2, H3⟩) (Reps.le (g := ⟨g'.hid, ρ2, S1, H2⟩) (ra.le ok le2) ok2 le3) ok3 le4
              refine ⟨us, hD3, by rw [← ra.length, ← lim_eq]; exact hlt, ?_⟩
              obtain ⟨ok5, l5, m5⟩ := push_ok (xs := us ++ [y]) ok4 l4 hd hD3
              exact nx ⟨g'.hid, ρ3, S3, upd H3 d (.lst (us ++ [y]))⟩ (acc ++ [z]) (us ++ [y]) ok5 l5 upd_same (by simp; omega) (Reps.app (Reps.mo m5 _ _ ra4) (.cons (Rep.mo m5 _ _ r4) .nil)) out
            · exact out.elim
theorem compGo_cons {t : LT} {c : Loc → Sto → R Bool} {e : Loc → Sto → R Vl} {l : Loc} {x : D} {xs acc : List D} {S : Sto} : compGo t c e l (x :: xs) acc S = stepC t c e l x acc S (fun a S => compGo t c e l xs a S) := by
  simp only [compGo]; rfl
theorem compRef_succ {t : LT} {c : Loc → Sto → R Bool} {e : Loc → Sto → R Vl} {l : Loc} {n k i : Nat} {acc : List D} {S : Sto} : compRef t c e l n (k + 1) i acc S = (match (S : List Cell)[n]? with
    | some (.lst ds) => (match ds[i]? with
      | none => .ok acc S
      | some x => stepC t c e l x acc S (fun a S => compRef t c e l n k (i + 1) a S))
    | _ => .stuck) := by
  simp only [compRef]; rfl
theorem Out.ds {c : Glb} {g1 : G} {W : WX} {σ : L2.St} {r : R (List D)} {k : Vl → G → Prop} (h : Out c g1 W σ r (fun a g2 => Le g1 g2 ∧ GOk c g2 ∧ Out c g2 W σ (EV.R.ok (Vl.d (.lst a)) g2.S) k)) : Out c g1 W σ (r.bind fun ds S2 => EV.R.ok (Vl.d (.lst ds)) S2) k := by
  cases r with
  | ok a S' =>
    intro ρ' H' okz lez
    obtain ⟨_, _, o4⟩ := h ρ' H' okz lez
    exact Out.here o4 okz
  | exc n xs S' => exact h
  | stuck => exact h
theorem comp_imp {c : Glb} {U : EV.Env} {W : WX} {own : List (Str × Nat)} {lg : LI} {t : LT} {lc : LO} {le : LE} (hown : ∀ i ∈ slotsT t, i ∈ own.map Prod.snd) {σ : L2.St} {H : Hp} {Q : VK} :
    tEvN c U W (.comp le lg t lc (own.map Prod.snd)) σ H Q → tLc (tIv c U W lg) (tG c t) (tCv c U F0 lc) (tEv c U F0 le) (own.map Prod.snd) σ H Q := by
  rintro ⟨g, loc, rfl, ok, lo, out⟩
  have out2 := Out.bind out
  refine ⟨g, loc, rfl, ok, lo, out2.imp fun src g1 ⟨le1, ok1, out1⟩ J wk => ?_⟩
  have lo1 := lo.le ok le1
  intro d hd
  obtain ⟨okH, lH⟩ := hide_ok (o := .lst []) (.inl ⟨[], rfl⟩) ok1 hd
  have fin : ∀ (g' : G) (acc : List D) (us : List V), GOk c g' → LeX d g1 g' → g'.H d = some (.lst us) → acc.length ≤ lim → Reps c.K (live g') g'.H acc us → Out c g1 W σ ((EV.R.ok acc g'.S).bind fun ds S2 => EV.R.ok (Vl.d (.lst ds)) S2) (fun (v : Vl) g' => ∃ z, v = Vl.d z ∧ OutN c g' z Q) → Q (.ref d) g'.H := by
    intro g' acc us ok' l' hD hl ra o
    obtain ⟨oke, lee, me⟩ := out_ok ok' l' hd (.inl ⟨_, rfl⟩) hD
    obtain ⟨z, ez, q⟩ := o _ _ oke lee
    cases ez
    have q2 := q d us (if_pos rfl) hl (Reps.mo me _ _ ra)
    have e : upd (fun a => if a = d then none else g'.H a) d (.lst us) = g'.H := by
      funext a
      by_cases ha : a = d
      · rw [ha, upd_same, hD]
      · rw [upd_ne ha, if_neg ha]
    have e2 : upd ({ hid := g1.hid, ρ := g'.ρ, S := g'.S, H := fun a => if a = d then none else g'.H a : G}).H d (.lst us) = g'.H := e
    rw [e2] at q2
    exact q2
  cases src with
  | items ds =>
    refine ⟨fun i m H => ∃ (g' : G) (acc : List D) (us : List V), g'.H = H ∧ GOk c g' ∧ LeX d g1 g' ∧ g'.H d = some (.lst us) ∧ acc.length ≤ lim ∧ Reps c.K (live g') g'.H acc us ∧ m = ds.length - i ∧ i ≤ ds.length ∧
      Out c g1 W σ ((compGo t (evC U lc) (evE U le) (wipeL loc (own.map Prod.snd)) (ds.drop i) acc g'.S).bind fun ds S2 => EV.R.ok (Vl.d (.lst ds)) S2) (fun (v : Vl) g' => ∃ z, v = Vl.d z ∧ OutN c g' z Q), ⟨ds.length, _, [], [], rfl, okH, lH, upd_same, Nat.zero_le _, .nil, rfl, Nat.zero_le _, out1⟩, ?_⟩
    rintro i m H ⟨g', acc, us, rfl, ok', l', hD, hl, ra, rfl, hi, o⟩
    obtain ⟨w1, w2⟩ := wk g' ok' l'.lw
    by_cases hlt : i < ds.length
    · have hx : ds[i]? = some ds[i] := List.getElem?_eq_getElem hlt
      obtain ⟨hgo, hy⟩ := w1 i _ hx
      rw [List.drop_eq_getElem_cons hlt, compGo_cons] at o
      refine .inr ⟨hgo, fun H' => ∃ (g2 : G) (acc2 : List D) (us2 : List V), g2.H = H' ∧ GOk c g2 ∧ LeX d g1 g2 ∧ g2.H d = some (.lst us2) ∧ acc2.length ≤ lim ∧ Reps c.K (live g2) g2.H acc2 us2 ∧
        Out c g1 W σ ((compGo t (evC U lc) (evE U le) (wipeL loc (own.map Prod.snd)) (ds.drop (i + 1)) acc2 g2.S).bind fun ds S2 => EV.R.ok (Vl.d (.lst ds)) S2) (fun (v : Vl) g' => ∃ z, v = Vl.d z ∧ OutN c g' z Q), ?_, fun w H' y => ?_⟩
      · rintro H' ⟨g2, acc2, us2, rfl, ok2, l2, hD2, hl2, ra2, o2⟩
        exact ⟨ds.length - (i + 1), by omega, g2, acc2, us2, rfl, ok2, l2, hD2, hl2, ra2, rfl, hlt, o2⟩
      · obtain ⟨ok2, le2, rx⟩ := hy w H' y
        have o2 := Out.bind o
        exact comp_turn hown (g' := { g' with H := H' }) hd ok1 lo1 ok2 (l'.le le2) rx ((le2.hidk d (by rw [l'.hid]; exact List.mem_cons_self)).trans hD) hl (ra.le ok' le2) o2 fun g2 acc2 us2 a b e f h o3 => ⟨g2, acc2, us2, rfl, a, b, e, f, h, Out.ds o3⟩
    · have e : i = ds.length := by omega
      subst e
      rw [List.drop_length] at o
      exact .inl ⟨w2, fin g' acc us ok' l' hD hl ra o⟩
  | live n =>
    have there : ∃ ds0, (g1.S : List Cell)[n]? = some (.lst ds0) ∧ Out c g1 W σ ((compRef t (evC U lc) (evE U le) (wipeL loc (own.map Prod.snd)) n (ds0.length + 1) 0 [] g1.S).bind fun ds S2 => EV.R.ok (Vl.d (.lst ds)) S2) (fun (v : Vl) g' => ∃ z, v = Vl.d z ∧ OutN c g' z Q) := by
      have out1 : Out c g1 W σ ((match (g1.S : List Cell)[n]? with
        | some (.lst ds) => compRef t (evC U lc) (evE U le) (wipeL loc (own.map Prod.snd)) n (ds.length + 1) 0 [] g1.S
        | _ => .stuck).bind fun ds S2 => EV.R.ok (Vl.d (.lst ds)) S2) (fun (v : Vl) g' => ∃ z, v = Vl.d z ∧ OutN c g' z Q) := out1
      split at out1
      · rename_i ds0 h0
        exact ⟨ds0, h0, out1⟩
      · exact out1.elim
    obtain ⟨ds0, h0, out1⟩ := there
    refine ⟨fun i m H => ∃ (g' : G) (acc : List D) (us : List V), g'.H = H ∧ GOk c g' ∧ LeX d g1 g' ∧ g'.H d = some (.lst us) ∧ acc.length ≤ lim ∧ Reps c.K (live g') g'.H acc us ∧
      Out c g1 W σ ((compRef t (evC U lc) (evE U le) (wipeL loc (own.map Prod.snd)) n m i acc g'.S).bind fun ds S2 => EV.R.ok (Vl.d (.lst ds)) S2) (fun (v : Vl) g' => ∃ z, v = Vl.d z ∧ OutN c g' z Q), ⟨ds0.length + 1, _, [], [], rfl, okH, lH, upd_same, Nat.zero_le _, .nil, out1⟩, ?_⟩
    rintro i m H ⟨g', acc, us, rfl, ok', l', hD, hl, ra, o⟩
    cases m with
    | zero => exact o.elim
    | succ k =>
      rw [compRef_succ] at o
      split at o
      · rename_i ds hds
        obtain ⟨w1, w2⟩ := wk g' ds ok' l'.lw hds
        split at o
        · rename_i hn
          exact .inl ⟨w2 i (by simpa using hn), fin g' acc us ok' l' hD hl ra o⟩
        · rename_i x hx
          obtain ⟨hgo, hy⟩ := w1 i _ hx
          refine .inr ⟨hgo, fun H' => ∃ (g2 : G) (acc2 : List D) (us2 : List V), g2.H = H' ∧ GOk c g2 ∧ LeX d g1 g2 ∧ g2.H d = some (.lst us2) ∧ acc2.length ≤ lim ∧ Reps c.K (EV.live g2) g2.H acc2 us2 ∧
            Out c g1 W σ ((compRef t (evC U lc) (evE U le) (wipeL loc (own.map Prod.snd)) n k (i + 1) acc2 g2.S).bind fun ds S2 => EV.R.ok (Vl.d (.lst ds)) S2) (fun (v : Vl) g' => ∃ z, v = Vl.d z ∧ OutN c g' z Q), ?_, fun w H' y => ?_⟩
          · rintro H' ⟨g2, acc2, us2, rfl, ok2, l2, hD2, hl2, ra2, o2⟩
            exact ⟨k, Nat.lt_succ_self k, g2, acc2, us2, rfl, ok2, l2, hD2, hl2, ra2, o2⟩
          · obtain ⟨ok2, le2, rx⟩ := hy w H' y
            have o2 := Out.bind o
            exact comp_turn hown (g' := { g' with H := H' }) hd ok1 lo1 ok2 (l'.le le2) rx ((le2.hidk d (by rw [l'.hid]; exact List.mem_cons_self)).trans hD) hl (ra.le ok' le2) o2 fun g2 acc2 us2 a b e f h o3 => ⟨g2, acc2, us2, rfl, a, b, e, f, h, Out.ds o3⟩
      · exact o.elim
theorem se_comp {c : Glb} {U : EV.Env} {W : WX} {X : Cx} {elt tg iter : Expr} {ifs : List Expr} {scope : Scope} {own : List (Str × Nat)} {pos : Pos} {lg : LI} {t : LT} {lc : LO} {le : LE} (hc : X.calm = true) (hN : X.N.Nodup)
    (hi : PI X tg iter (tIv c U W lg)) (okB : BlkOk X.N X.env.scope scope own) (hown : ∀ i ∈ slotsT t, i ∈ own.map Prod.snd)
    (hg : ∀ (s : Shared) (H : Hp) (C : Addr) (cl : List (Str × Addr)) (fp : List Addr), PG (X.blk s H scope (compEnvC scope cl C X.env) fp) tg (tG c t))
    (ht : ∀ (s : Shared) (H : Hp) (C : Addr) (cl : List (Str × Addr)) (fp : List Addr), PTs (X.blk s H scope (compEnvC scope cl C X.env) fp) ifs (tCv c U F0 lc))
    (he : ∀ (s : Shared) (H : Hp) (C : Addr) (cl : List (Str × Addr)) (fp : List Addr), PE (X.blk s H scope (compEnvC scope cl C X.env) fp) elt (tEv c U F0 le)) (hs : ∀ x, foldedSetIterable iter X.env x = pure x) :
    PE X (.ListComp elt [⟨tg, iter, ifs, 0⟩] scope pos) (tEvN c U W (.comp le lg t lc (own.map Prod.snd))) ∧
      ∀ (i : Nat) (y : Str) (py spos : Pos), X.N[i]? = some y → X.env.scope.names.lookup y = some .local → swapsWith (.ListComp elt [⟨tg, iter, ifs, 0⟩] scope pos) (some (.Name y py)) spos.line X.env = pure true →
        PS X (.Assign [.Name y py] (.ListComp elt [⟨tg, iter, ifs, 0⟩] scope pos) spos) (tAsg (tEvN c U W (.comp le lg t lc (own.map Prod.snd))) (gName i)) :=
  ⟨PE.imp (pe_lc hc hN hi okB hg ht he hs) fun σ H Q => comp_imp hown, fun i y py spos hi2 hy hsw => PS.imp (ps_setLc hc hN hi2 hy hsw hi okB hg ht he hs) fun E σ H h => comp_imp hown h⟩
end EV
end

section
set_option Elab.async false
set_option linter.all false
set_option maxRecDepth 100000
set_option maxHeartbeats 1000000
/-! EV13: statements -/
namespace EV
open PySem PySem.Spec PyProof.Rows L2
def OutS (c : Glb) (g : G) (W : WX) (E : L2.Ends) (r : RS) : Prop :=
  match r with
  | .nx l S' => ∀ ρ' H' σ', GOk c ⟨g.hid, ρ', S', H'⟩ → Le g ⟨g.hid, ρ', S', H'⟩ → LocOk c ⟨g.hid, ρ', S', H'⟩ l σ' → E.nx σ' H'
  | .ret v S' => ∀ ρ' H' w, GOk c ⟨g.hid, ρ', S', H'⟩ → Le g ⟨g.hid, ρ', S', H'⟩ → RepV c ⟨g.hid, ρ', S', H'⟩ v w → E.rt w H'
  | .bk l S' => ∀ ρ' H' σ', GOk c ⟨g.hid, ρ', S', H'⟩ → Le g ⟨g.hid, ρ', S', H'⟩ → LocOk c ⟨g.hid, ρ', S', H'⟩ l σ' → E.bk σ' H'
  | .ct l S' => ∀ ρ' H' σ', GOk c ⟨g.hid, ρ', S', H'⟩ → Le g ⟨g.hid, ρ', S', H'⟩ → LocOk c ⟨g.hid, ρ', S', H'⟩ l σ' → E.ct σ' H'
  | .exc n xs l S' => ∀ ρ' H' d σ', GOk c ⟨g.hid, ρ', S', H'⟩ → Le g ⟨g.hid, ρ', S', H'⟩ → LocOk c ⟨g.hid, ρ', S', H'⟩ l σ' → ExOk c n xs d H' → ∃ cls, c.ca n = some cls ∧ W cls d σ' H'
  | .stuck => False
def tS (c : Glb) (U : EV.Env) (W : WX) (s : LS) : TS := fun E σ H => ∃ (g : G) (loc : Loc), g.H = H ∧ GOk c g ∧ LocOk c g loc σ ∧ OutS c g W E (evS U s loc g.S)
def tSs (c : Glb) (U : EV.Env) (W : WX) (s : LSs) : TS := fun E σ H => ∃ (g : G) (loc : Loc), g.H = H ∧ GOk c g ∧ LocOk c g loc σ ∧ OutS c g W E (evSs U s loc g.S)
section
variable {c : Glb} {g g' : G} {W : WX} {E E' : L2.Ends} {σ : L2.St} {loc : Loc}
theorem OutS.le {r : RS} (h : OutS c g W E r) (l : Le g g') : OutS c g' W E r := by
  have hh := l.hid
  cases r with
  | nx l1 S' => intro ρ' H' σ' ok le lo; rw [hh] at ok le lo; exact h ρ' H' σ' ok (l.trans le) lo
  | ret v S' => intro ρ' H' w ok le lo; rw [hh] at ok le lo; exact h ρ' H' w ok (l.trans le) lo
  | bk l1 S' => intro ρ' H' σ' ok le lo; rw [hh] at ok le lo; exact h ρ' H' σ' ok (l.trans le) lo
  | ct l1 S' => intro ρ' H' σ' ok le lo; rw [hh] at ok le lo; exact h ρ' H' σ' ok (l.trans le) lo
  | exc n xs l1 S' => intro ρ' H' d σ' ok le lo ex; rw [hh] at ok le lo; exact h ρ' H' d σ' ok (l.trans le) lo ex
  | stuck => exact h
theorem OutS.st {α : Type} {r : R α} {f : α → Sto → RS} (ok : GOk c g) (lo : LocOk c g loc σ) (h : OutS c g W E (r.st loc f)) : Out c g W σ r (fun a g1 => Le g g1 ∧ GOk c g1 ∧ OutS c g1 W E (f a g1.S)) := by
  cases r with
  | ok a S' => intro ρ' H' ok1 le1; exact ⟨le1, ok1, OutS.le (g := g) h le1⟩
  | exc n xs S' => intro ρ' H' d ok1 le1 ex; exact h ρ' H' d σ ok1 le1 (lo.le ok le1) ex
  | stuck => exact h
theorem OutS.opt {α : Type} {o : Option α} {f : α → RS} (h : OutS c g W E (RS.opt o f)) : ∃ a, o = some a ∧ OutS c g W E (f a) := by
  cases o with
  | none => exact h.elim
  | some a => exact ⟨a, rfl, h⟩
/-- the very state -/
theorem OutS.nx {l : Loc} (h : OutS c g W E (.nx l g.S)) (ok : GOk c g) (lo : LocOk c g l σ) : E.nx σ g.H := h g.ρ g.H σ ok (Le.refl g) lo
theorem OutS.rt {v : Vl} {w : V} (h : OutS c g W E (.ret v g.S)) (ok : GOk c g) (r : RepV c g v w) : E.rt w g.H := h g.ρ g.H w ok (Le.refl g) r
theorem OutS.imp {r : RS} (h : OutS c g W E r) (i1 : ∀ l g' σ', r = .nx l g'.S → GOk c g' → Le g g' → LocOk c g' l σ' → E.nx σ' g'.H → E'.nx σ' g'.H) (i2 : ∀ v H', E.rt v H' → E'.rt v H')
    (i3 : ∀ l g' σ', r = .bk l g'.S → GOk c g' → Le g g' → LocOk c g' l σ' → E.bk σ' g'.H → E'.bk σ' g'.H) (i4 : ∀ l g' σ', r = .ct l g'.S → GOk c g' → Le g g' → LocOk c g' l σ' → E.ct σ' g'.H → E'.ct σ' g'.H) : OutS c g W E' r := by
  cases r with
  | nx l1 S' => intro ρ' H' σ' ok le lo; exact i1 l1 ⟨g.hid, ρ', S', H'⟩ σ' rfl ok le lo (h ρ' H' σ' ok le lo)
  | ret v S' => intro ρ' H' w ok le lo; exact i2 w H' (h ρ' H' w ok le lo)
  | bk l1 S' => intro ρ' H' σ' ok le lo; exact i3 l1 ⟨g.hid, ρ', S', H'⟩ σ' rfl ok le lo (h ρ' H' σ' ok le lo)
  | ct l1 S' => intro ρ' H' σ' ok le lo; exact i4 l1 ⟨g.hid, ρ', S', H'⟩ σ' rfl ok le lo (h ρ' H' σ' ok le lo)
  | exc n xs l1 S' => exact h
  | stuck => exact h
end
section
variable {c : Glb} {U : EV.Env} {W : WX} {X : Cx} {e a b d : Expr} {l la lb ld : LE} {pos : Pos} {st : Stmt} {rest sa sb : List Stmt} {s : LS} {ss tsa tsb : LSs}
theorem ss_nil : PSs X [] (tSs c U W .nil) := PSs.imp pss_nil fun E σ H => by
  rintro ⟨g, loc, rfl, ok, lo, out⟩
  exact OutS.nx out ok lo
theorem ss_cons (h1 : PS X st (tS c U W s)) (h2 : PSs X rest (tSs c U W ss)) : PSs X (st :: rest) (tSs c U W (.cons s ss)) := PSs.imp (pss_cons h1 h2) fun E σ H => by
  rintro ⟨g, loc, rfl, ok, lo, out⟩
  refine ⟨g, loc, rfl, ok, lo, ?_⟩
  have out : OutS c g W E (match evS U s loc g.S with | .nx l' S' => evSs U ss l' S' | r => r) := out
  cases hr : evS U s loc g.S with
  | nx l' S' =>
    rw [hr] at out
    intro ρ' H' σ' ok1 le1 lo1
    exact ⟨⟨g.hid, ρ', S', H'⟩, l', rfl, ok1, lo1, OutS.le (g := g) out le1⟩
  | ret v S' => rw [hr] at out; exact out
  | bk l' S' => rw [hr] at out; exact out
  | ct l' S' => rw [hr] at out; exact out
  | exc n xs l' S' => rw [hr] at out; exact out
  | stuck => rw [hr] at out; exact out
theorem s_pass : PS X (.Pass pos) (tS c U W .pass) := PS.imp ps_pass fun E σ H => by
  rintro ⟨g, loc, rfl, ok, lo, out⟩
  exact OutS.nx out ok lo
theorem s_never : PS X st (tS c U W .never) := PS.imp ps_never fun E σ H => by
  rintro ⟨g, loc, rfl, ok, lo, out⟩
  exact out
def plainC : Expr → Bool
  | .ListComp .. => false
  | .SetComp .. => false
  | .DictComp .. => false
  | _ => true
theorem plainC_no {o : Option Expr} {n : Nat} {env : PySem.Env} (h : plainC e = true) : swapsWith e o n env = pure false := by
  cases e <;> first | rfl | cases h
theorem s_ex (hp : plainC e = true) (he : PE X e (tEv c U W l)) : PS X (.Expr e pos) (tS c U W (.ex l)) := PS.imp (ps_expr he (plainC_no hp)) fun E σ H => by
  rintro ⟨g, loc, rfl, ok, lo, out⟩
  refine ⟨g, loc, rfl, ok, lo, (OutS.st ok lo out).imp fun v g1 ⟨le1, ok1, out1⟩ w rw1 => ?_⟩
  exact OutS.nx out1 ok1 (lo.le ok le1)
theorem s_ret (he : PE X e (tEv c U W l)) : PS X (.Return (some e) pos) (tS c U W (.ret l)) := PS.imp (ps_ret he) fun E σ H => by
  rintro ⟨g, loc, rfl, ok, lo, out⟩
  refine ⟨g, loc, rfl, ok, lo, (OutS.st ok lo out).imp fun v g1 ⟨le1, ok1, out1⟩ w rw1 => ?_⟩
  obtain ⟨⟨x, S2⟩, hp, q⟩ := OutS.opt out1
  obtain ⟨ok2, le2, r2⟩ := take_ok ok1 rw1 hp
  exact OutS.rt (g := { g1 with S := S2 }) (OutS.le q le2) ok2 (.d r2)
theorem s_retk (he : PE X e (tEv c U W l)) : PS X (.Return (some e) pos) (tS c U W (.retk l)) := PS.imp (ps_ret he) fun E σ H => by
  rintro ⟨g, loc, rfl, ok, lo, out⟩
  refine ⟨g, loc, rfl, ok, lo, (OutS.st ok lo out).imp fun v g1 ⟨le1, ok1, out1⟩ w rw1 => ?_⟩
  exact OutS.rt out1 ok1 rw1
theorem s_retn : PS X (.Return none pos) (tS c U W .retn) := PS.imp ps_retN fun E σ H => by
  rintro ⟨g, loc, rfl, ok, lo, out⟩
  exact OutS.rt out ok (.d .non)
/-! ### values to names -/
theorem asg_imp {i : Nat} {E : L2.Ends} {σ : L2.St} {H : Hp} : tS c U W (.asg (.nm i) l) E σ H → tAsg (tEv c U W l) (gName i) E σ H := by
  rintro ⟨g, loc, rfl, ok, lo, out⟩
  refine ⟨g, loc, rfl, ok, lo, (OutS.st ok lo out).imp fun v g1 ⟨le1, ok1, out1⟩ w rw1 => ?_⟩
  obtain ⟨l', hl, q⟩ := OutS.opt out1
  cases hl
  exact OutS.nx q ok1 ((lo.le ok le1).set rw1 i)
theorem s_asg {i : Nat} {x : Str} {p2 : Pos} (hN : X.N.Nodup) (hi : X.N[i]? = some x) (hx : L2.Loc X.env.scope x) (hf : X.fn x = true ∨ X.env.scope.names.lookup x = some .local) (hp : plainC e = true) (he : PE X e (tEv c U W l)) :
    PS X (.Assign [.Name x p2] e pos) (tS c U W (.asg (.nm i) l)) := PS.imp (ps_set hN hi hx he (plainC_no hp) hf) fun E σ H h => asg_imp h
theorem s_asgC {i : Nat} {x : Str} {p2 : Pos} (hN : X.N.Nodup) (hi : X.N[i]? = some x) (hx : L2.Loc X.env.scope x) (hf : X.fn x = true ∨ X.env.scope.names.lookup x = some .local) (hs : swapsWith e (some (.Name x p2)) pos.line X.env = pure false) (he : PE X e (tEv c U W l)) :
    PS X (.Assign [.Name x p2] e pos) (tS c U W (.asg (.nm i) l)) := PS.imp (ps_set hN hi hx he hs hf) fun E σ H h => asg_imp h
/-- a new list stays, or is frozen -/
theorem froz_imp (hd : ∀ loc S v S', evE U l loc S = .ok v S' → ∃ z, v = .d z) {σ : L2.St} {H : Hp} {Q : VK} : tEv c U W l σ H Q → tEvN c U W l σ H Q := by
  rintro ⟨g, loc, rfl, ok, lo, out⟩
  refine ⟨g, loc, rfl, ok, lo, ?_⟩
  cases hr : evE U l loc g.S with
  | ok v S' =>
    rw [hr] at out
    intro ρ' H' ok' le
    obtain ⟨z, rfl⟩ := hd _ _ _ _ hr
    exact ⟨z, rfl, OutN.of ok' fun H2 w o2 l2 r2 => out ρ' H2 o2 (le.trans l2) w r2⟩
  | exc n xs S' => rw [hr] at out; exact out
  | stuck => rw [hr] at out; exact out
theorem thaw_imp {σ : L2.St} {H : Hp} {Q : VK} : tEv c U W (.thaw l) σ H Q → tEvN c U W l σ H Q := by
  rintro ⟨g, loc, rfl, ok, lo, out⟩
  refine ⟨g, loc, rfl, ok, lo, Out.imp (Out.bind out) fun v g1 ⟨le, ok1, o1⟩ => ?_⟩
  cases v with
  | d z =>
    cases z with
    | lst ds =>
      refine ⟨.lst ds, rfl, fun p vs hp hl r => ?_⟩
      refine o1 (g1.ρ ++ [p]) (upd g1.H p (.lst vs)) (gok_more ok1 hp hl r) (le_more ok1 hp) _ (.ref ?_)
      rw [← ok1.len]; simp
    | _ => exact False.elim o1
  | _ => exact False.elim o1
/-- new values to names: for lists by comprehensions, on one line -/
theorem s_asgF {i : Nat} (hd : ∀ loc S v S', evE U l loc S = .ok v S' → ∃ z, v = .d z) (h : PS X st (tAsg (tEvN c U W l) (gName i))) : PS X st (tS c U W (.asg (.nm i) l)) := PS.imp h fun E σ H q => froz_imp hd (asg_imp q)
theorem s_asgT {i : Nat} (h : PS X st (tAsg (tEvN c U W l) (gName i))) : PS X st (tS c U W (.asg (.nm i) (.thaw l))) := PS.imp h fun E σ H q => thaw_imp (asg_imp q)
theorem s_asgTup {es : List Expr} {kk : Nat} {p2 : Pos} {t : LT} (ht : ∀ i, t ≠ .nm i) (hp : plainC e = true) (hw : swappedStores [.Tuple es kk p2] e X.env = pure none) (he : PE X e (tEv c U W l)) (hg : PG X (.Tuple es kk p2) (tG c t)) :
    PS X (.Assign [.Tuple es kk p2] e pos) (tS c U W (.asg t l)) := PS.imp (ps_asg he hg (by show swapsWith e (some (.Tuple es kk p2)) pos.line X.env = _; exact plainC_no hp) hw rfl) fun E σ H => by
  rintro ⟨g, loc, rfl, ok, lo, out⟩
  refine ⟨g, loc, rfl, ok, lo, (OutS.st ok lo out).imp fun v g1 ⟨le1, ok1, out1⟩ w rw1 => ?_⟩
  obtain ⟨l', hl, q⟩ := OutS.opt out1
  cases rw1 with
  | @d x0 _ r =>
    have hl : setT t x0 loc = some l' := by
      cases t with
      | nm i => exact absurd rfl (ht i)
      | _ => exact hl
    exact ⟨g1, loc, l', _, rfl, ok1, lo.le ok le1, r, hl, fun σ' lo' _ => OutS.nx q ok1 lo'⟩
  | _ =>
    exfalso
    cases t with
    | nm i => exact ht i rfl
    | _ => cases hl
theorem s_par {i j : Nat} {x y : Str} {px py pt : Pos} {kt k2 pt2} (hc : X.calm = true) (hN : X.N.Nodup) (hi : X.N[i]? = some x) (hj : X.N[j]? = some y) (hij : i ≠ j)
    (hx : X.env.scope.names.lookup x = some .local) (hy : X.env.scope.names.lookup y = some .local) (pa : plainX a = true) (pb : plainX b = true) (ha : PE X a (tEv c U W la)) (hb : PE X b (tEv c U W lb))
    (hw : swappedStores [.Tuple [.Name x px, .Name y py] kt pt] (.Tuple [a, b] k2 pt2) X.env = pure (some [x, y])) :
    PS X (.Assign [.Tuple [.Name x px, .Name y py] kt pt] (.Tuple [a, b] k2 pt2) pos) (tS c U W (.par i j la lb)) := PS.imp (ps_par hc hN hi hj hij hx hy (sa_cons pa ha (sa_cons pb hb (sa_nil (c := c) (U := U) (W := W)))) hw) fun E σ H => by
  rintro ⟨g, loc, rfl, ok, lo, out⟩
  refine ⟨g, loc, rfl, ok, lo, ?_⟩
  show Out c g W σ ((evE U la loc g.S).bind fun v S1 => ((evE U lb loc S1).bind fun w S2 => R.ok [w] S2).bind fun vs S2 => R.ok (v :: vs) S2) _
  have o1 := OutS.st ok lo out
  cases h1 : evE U la loc g.S with
  | exc n xs S' => rw [h1] at o1; exact o1
  | stuck => rw [h1] at o1; exact o1
  | ok v S1 =>
    have out : OutS c g W E ((evE U la loc g.S).st loc fun v S1 => (evE U lb loc S1).st loc fun w S2 => .nx ((loc.set i (some v)).set j (some w)) S2) := out
    rw [h1] at out
    simp only [R.bind_ok, R.st_ok] at out ⊢
    cases h2 : evE U lb loc S1 with
    | exc n xs S' =>
      rw [h2] at out
      intro ρ' H' d ok' le' ex
      exact out ρ' H' d σ ok' le' (lo.le ok le') ex
    | stuck => rw [h2] at out; exact out
    | ok w S2 =>
      rw [h2] at out
      simp only [R.bind_ok, R.st_ok] at out ⊢
      intro ρ' H' ok' le' ws rws
      cases rws with
      | cons r1 rws =>
        cases rws with
        | cons r2 rws =>
          cases rws
          exact ⟨_, _, rfl, out ρ' H' _ ok' le' (((lo.le ok le').set r1 i).set r2 j)⟩
/-- plain names -/
def gNms : List Nat → TGs
  | [] => gNil
  | i :: is => gCons (gName i) (gNms is)
/-- names and their places -/
def NmsAt (X : Cx) : List Nat → List Expr → Prop
  | [], [] => True
  | i :: is, e :: es => (∃ x p, e = .Name x p ∧ X.N[i]? = some x ∧ L2.Loc X.env.scope x ∧ (X.fn x = true ∨ X.env.scope.names.lookup x = some .local)) ∧ NmsAt X is es
  | _, _ => False
theorem pgs_nms (hN : X.N.Nodup) : ∀ (is : List Nat) (ts : List Expr), NmsAt X is ts → PGs X ts (gNms is) ∧ (assignEach ts X.env).length = ts.length ∧ (assignEach ts X.env).findIdx? (·.1) = none ∧ ts.length = is.length
  | [], [], _ => ⟨pgs_nil, rfl, rfl, rfl⟩
  | [], _ :: _, h => h.elim
  | _ :: _, [], h => h.elim
  | i :: is, e :: es, h => by
    obtain ⟨⟨x, p, rfl, h1, h2, h3⟩, h⟩ := h
    obtain ⟨a, b, d, n⟩ := pgs_nms hN is es h
    have e1 : assignEach (.Name x p :: es) X.env = (false, assign (.Name x p) X.env) :: assignEach es X.env := rfl
    refine ⟨pgs_cons (pg_name hN h1 h2 h3) a, by rw [e1]; simp [b], by rw [e1, List.findIdx?_cons, d]; rfl, by simp [n]⟩
theorem gNms_set {σ : L2.St} {E : L2.Ends} : ∀ {g : G} {loc : Loc} {is : List Nat} {vs : List Vl} {ws : List V} {σ : L2.St} {H : Hp}, g.H = H → LocOk c g loc σ → RepVs c g vs ws → vs.length = is.length → (∀ σ', LocOk c g (setAll loc is vs) σ' → E.nx σ' H) → gNms is ws σ H E.nx
  | g, loc, [], [], [], σ, H, e, lo, .nil, _, q => ⟨rfl, q σ lo⟩
  | g, loc, i :: is, v :: vs, w :: ws, σ, H, e, lo, .cons r rs, hl, q => ⟨w, ws, rfl, gNms_set (σ := σ) e (lo.set r i) rs (by simpa using hl) q⟩
  | g, loc, [], _ :: _, _, σ, H, e, lo, _, hl, q => by simp at hl
  | g, loc, _ :: _, [], _, σ, H, e, lo, _, hl, q => by simp at hl
theorem s_parN {is : List Nat} {ts es : List Expr} {kt k2 : Nat} {pt pt2 : Pos} {ls : LEs} (hc : X.calm = true) (hN : X.N.Nodup) (hn : NmsAt X is ts) (h60 : ts.length ≤ 60) (hw : swappedStores [.Tuple ts kt pt] (.Tuple es k2 pt2) X.env = pure none) (ha : PA X es (tEvs c U W ls)) :
    PS X (.Assign [.Tuple ts kt pt] (.Tuple es k2 pt2) pos) (tS c U W (.parN is ls)) := by
  obtain ⟨h1, h2, h3, h4⟩ := pgs_nms hN is ts hn
  refine PS.imp (ps_asg (pe_tup ha) (pg_tup hc h1 h2 h3) rfl hw rfl) fun E σ H => ?_
  rintro ⟨g, loc, rfl, ok, lo, out⟩
  refine ⟨g, loc, rfl, ok, lo, (OutS.st ok lo out).imp fun vs g1 ⟨le1, ok1, out1⟩ ws rws => ?_⟩
  split at out1
  · rename_i hl
    have lw := rws.length
    refine ⟨?_, fun p hp => ⟨p, _, rfl, .inl (.inl upd_same), by omega, ?_⟩⟩
    · have : 60 ≤ sizeLine := by decide
      omega
    have l2 := le_laid (o := .tup ws) ok1 hp
    exact gNms_set (σ := σ) (g := { g1 with H := upd g1.H p (.tup ws) }) rfl ((lo.le ok le1).le ok1 l2) (rws.le ok1 l2) hl fun σ' lo' => out1 g1.ρ _ _ (gok_laid ok1 hp) l2 lo'
  · exact out1.elim
theorem s_par3 {i j k : Nat} {x y z : Str} {px py pz pt : Pos} {kt k2 pt2} (hc : X.calm = true) (hN : X.N.Nodup) (hi : X.N[i]? = some x) (hj : X.N[j]? = some y) (hk : X.N[k]? = some z) (hij : i ≠ j) (hik : i ≠ k) (hjk : j ≠ k)
    (hx : X.env.scope.names.lookup x = some .local) (hy : X.env.scope.names.lookup y = some .local) (hz : X.env.scope.names.lookup z = some .local) (pa : plainX a = true) (pb : plainX b = true) (pd : plainX d = true) (ha : PE X a (tEv c U W la)) (hb : PE X b (tEv c U W lb)) (hd : PE X d (tEv c U W ld))
    (hw : swappedStores [.Tuple [.Name x px, .Name y py, .Name z pz] kt pt] (.Tuple [a, b, d] k2 pt2) X.env = pure (some [x, y, z])) :
    PS X (.Assign [.Tuple [.Name x px, .Name y py, .Name z pz] kt pt] (.Tuple [a, b, d] k2 pt2) pos) (tS c U W (.par3 i j k la lb ld)) := PS.imp (ps_par3 hc hN hi hj hk hij hik hjk hx hy hz (sa_cons pa ha (sa_cons pb hb (sa_cons pd hd (sa_nil (c := c) (U := U) (W := W))))) hw) fun E σ H => by
  rintro ⟨g, loc, rfl, ok, lo, out⟩
  refine ⟨g, loc, rfl, ok, lo, ?_⟩
  show Out c g W σ ((evE U la loc g.S).bind fun v S1 => ((evE U lb loc S1).bind fun w S2 => ((evE U ld loc S2).bind fun u S3 => R.ok [u] S3).bind fun vs S3 => R.ok (w :: vs) S3).bind fun vs S2 => R.ok (v :: vs) S2) _
  have o1 := OutS.st ok lo out
  cases h1 : evE U la loc g.S with
  | exc n xs S' => rw [h1] at o1; exact o1
  | stuck => rw [h1] at o1; exact o1
  | ok v S1 =>
    have out : OutS c g W E ((evE U la loc g.S).st loc fun v S1 => (evE U lb loc S1).st loc fun w S2 => (evE U ld loc S2).st loc fun u S3 => .nx (((loc.set i (some v)).set j (some w)).set k (some u)) S3) := out
    rw [h1] at out
    simp only [R.bind_ok, R.st_ok] at out ⊢
    cases h2 : evE U lb loc S1 with
    | exc n xs S' =>
      rw [h2] at out
      intro ρ' H' d ok' le' ex
      exact out ρ' H' d σ ok' le' (lo.le ok le') ex
    | stuck => rw [h2] at out; exact out
    | ok w S2 =>
      rw [h2] at out
      simp only [R.bind_ok, R.st_ok] at out ⊢
      cases h3 : evE U ld loc S2 with
      | exc n xs S' =>
        rw [h3] at out
        intro ρ' H' d ok' le' ex
        exact out ρ' H' d σ ok' le' (lo.le ok le') ex
      | stuck => rw [h3] at out; exact out
      | ok u S3 =>
        rw [h3] at out
        simp only [R.bind_ok, R.st_ok] at out ⊢
        intro ρ' H' ok' le' ws rws
        cases rws with
        | cons r1 rws =>
          cases rws with
          | cons r2 rws =>
            cases rws with
            | cons r3 rws =>
              cases rws
              exact ⟨_, _, _, rfl, out ρ' H' _ ok' le' ((((lo.le ok le').set r1 i).set r2 j).set r3 k)⟩
end
end EV
end

section
set_option Elab.async false
set_option linter.all false
set_option maxRecDepth 100000
set_option maxHeartbeats 1000000
/-! EV14: items written, branches, loops -/
namespace EV
open PySem PySem.Spec PyProof.Rows L2
section
variable {c : Glb} {U : EV.Env} {W : WX} {X : Cx} {e a b d : Expr} {l la lb ld : LE} {pos p2 : Pos} {st : Stmt} {sa sb : List Stmt} {s : LS} {tsa tsb : LSs}
/-! ### displays of dicts -/
def pairUp : List V → List (V × V)
  | a :: b :: r => (a, b) :: pairUp r
  | _ => []
def tPrs (c : Glb) (U : EV.Env) (W : WX) (l : LEs) : L2.St → Hp → (List (V × V) → Hp → Prop) → Prop := fun σ H Q => ∃ (g : G) (loc : Loc), g.H = H ∧ GOk c g ∧ LocOk c g loc σ ∧ Out c g W σ (evEs U l loc g.S) (fun vs g' => ∀ ws, RepVs c g' vs ws → Q (pairUp ws) g'.H)
def SD (c : Glb) (U : EV.Env) (W : WX) (X : Cx) (pos : Pos) (l : LEs) (ks : List (Option Expr)) (vs : List Expr) : Prop := ∃ trs, PPs X pos ks vs trs ∧ ∀ σ H Q, tPrs c U W l σ H Q → tPairs trs σ H Q
theorem sd_nil : SD c U W X pos .nil [] [] := ⟨[], pps_nil, fun σ H Q => by
  rintro ⟨g, loc, rfl, ok, lo, out⟩
  exact (Out.here out ok) [] .nil⟩
theorem sd_cons {ks : List (Option Expr)} {vs : List Expr} {ls : LEs} (ha : PE X a (tEv c U W la)) (hb : PE X b (tEv c U W lb)) (h : SD c U W X pos ls ks vs) : SD c U W X pos (.cons la (.cons lb ls)) (some a :: ks) (b :: vs) := by
  obtain ⟨trs, h1, h2⟩ := h
  refine ⟨_, pps_cons ha hb h1, fun σ H Q => ?_⟩
  rintro ⟨g, loc, rfl, ok, lo, out⟩
  refine ⟨g, loc, rfl, ok, lo, (Out.bind out).imp fun v g1 ⟨le1, ok1, out1⟩ w rw1 => ?_⟩
  have out1 : Out c g1 W σ (((evE U lb loc g1.S).bind fun w S2 => (evEs U ls loc S2).bind fun vs S3 => R.ok (w :: vs) S3).bind fun vs S2 => R.ok (v :: vs) S2) _ := out1
  have o2 : Out c g1 W σ (evE U lb loc g1.S) (fun v2 g2 => Le g1 g2 ∧ GOk c g2 ∧ Out c g2 W σ (((evEs U ls loc g2.S).bind fun vs S3 => R.ok (v2 :: vs) S3).bind fun vs S2 => R.ok (v :: vs) S2) (fun vs g' => ∀ ws, RepVs c g' vs ws → Q (pairUp ws) g'.H)) := by
    cases hr : evE U lb loc g1.S with
    | ok v2 S2 => rw [hr] at out1; intro ρ' H' ok2 le2; exact ⟨le2, ok2, Out.le (g := g1) out1 le2⟩
    | exc n xs S' => rw [hr] at out1; exact out1
    | stuck => rw [hr] at out1; exact out1
  refine ⟨g1, loc, rfl, ok1, lo.le ok le1, o2.imp fun v2 g2 ⟨le2, ok2, out2⟩ w2 rw2 => ?_⟩
  refine h2 _ _ _ ⟨g2, loc, rfl, ok2, (lo.le ok le1).le ok1 le2, ?_⟩
  cases hr : evEs U ls loc g2.S with
  | ok vs3 S3 =>
    rw [hr] at out2
    intro ρ' H' ok3 le3 ws rws
    exact Out.here (g := ⟨g2.hid, ρ', S3, H'⟩) (Out.le (g := g2) out2 le3) ok3 _ (.cons ((rw1.le ok1 le2).le ok2 le3) (.cons (rw2.le ok2 le3) rws))
  | exc n xs S' => rw [hr] at out2; exact out2
  | stuck => rw [hr] at out2; exact out2
theorem pairs_rep {g : G} : ∀ {ds : List D} {ks : List (Ky × D)} {ws : List V}, pairsA ds = some ks → Reps c.K (live g) g.H ds ws → ∃ vs : List (Key × V), pairUp ws = vs.map (fun kv => (kV kv.1, kv.2)) ∧ RepKs c.K (live g) g.H ks vs ∧ ks.length + ks.length = ds.length
  | [], ks, ws, h, r => by cases h; cases r; exact ⟨[], rfl, .nil, rfl⟩
  | [d], ks, ws, h, r => by cases h
  | k :: v :: ds, ks, ws, h, r => by
    have h : ((kyOf k).bind fun y => (pairsA ds).map ((y, v) :: ·)) = some ks := h
    rw [Option.bind_eq_some_iff] at h
    obtain ⟨y, hy, h⟩ := h
    rw [Option.map_eq_some_iff] at h
    obtain ⟨ks', hk, rfl⟩ := h
    cases r with
    | cons r1 r =>
      cases r with
      | cons r2 r =>
        obtain ⟨vs, e1, e2, e3⟩ := pairs_rep hk r
        obtain ⟨rfl, oy⟩ := kyOf_rep r1 hy
        exact ⟨(toK y, _) :: vs, by rw [List.map_cons, ← e1]; rfl, .cons oy r2 e2, by simp only [List.length_cons]; omega⟩
/-- a display of one pair, its key a tuple -/
def tDispT (trs : List (TE × TE)) : TE := fun σ H Q => ∀ p, H p = none → tPairs trs σ (upd H p (.dT [])) fun ps H2 => H2 p = some (.dT []) ∧ ∃ (b : Addr) (ks : List Key) (v : V), ps = [(.ref b, v)] ∧ H2 b = some (.tup (ks.map kV)) ∧ Q (.ref p) (upd H2 p (.dT [(ks, v)]))
theorem pe_dispT {X : Cx} {pos : Pos} {keys : List (Option Expr)} {values : List Expr} {trs : List (TE × TE)} (hu : X.A.units + 200 < cLine) (h : PPs X pos keys values trs) (hall : keys.all (·.isSome) = true) (hl : keys.length = values.length) (h0 : keys ≠ [])
    (h15 : keys.length ≤ 15) : PE X (.Dict keys values pos) (tDispT trs) := by
  refine ⟨fun pins s σ H Q I q => ?_⟩
  have hn := I.hok.fresh (Nat.le_refl s.heap.objs.size)
  have I1 := I.laid (a := s.heap.objs.size) (o := .dT []) (h' := s.heap.push { cls := .type "dict", data := .dict #[] }) (t' := s.toks) (fun _ _ q => Heap.get?_push_of_some _ q) (Nat.le_refl _) (dt_empty s.heap I.big)
  have len := pairTrees_length keys values X.env pos hall hl
  have ne : pairTrees keys values X.env pos ≠ [] := fun e => by
    rw [e] at len
    exact h0 (List.length_eq_zero_iff.mp len.symm)
  have few : (pairTrees keys values X.env pos).length ≤ 15 := by rw [len]; exact h15
  have main := h.run pins _ σ _ _ I1 (q _ hn)
  rw [arm_eval_Dict, zip_pairTrees keys values X.env pos hall hl, dictDisplay_pairs _ ne (by omega)]
  refine wpAny_bind (wpAny_standAt (wpAny_bind (wpAny_subDictH (knd := tupleKind (mixKind X.prog X.w)) (show X.A.units < cLine by omega) few (thn main fun ws s2 hh => ?_))))
  obtain ⟨ps, H2, I2, rel, e, b, ks, v, ep, eb, q2⟩ := hh
  subst ep
  cases rel with
  | cons r0 rt =>
    cases rt
    rename_i w0
    obtain ⟨k0, v0⟩ := w0
    obtain ⟨rk, rv⟩ := r0
    cases (show k0 = Value.ref b from rk)
    obtain ⟨z, hd, xs, rx, dd⟩ := dt_of I2.hok e
    cases rx
    refine ⟨[(ks, b, v0)], ⟨rfl, rfl, key_of I2.hok eb, True.intro⟩, dd, fun h' tk dd' hs => wpAny_pure ⟨.ref s.heap.objs.size, _, ?_, rfl, q2⟩⟩
    obtain ⟨o, es, epn, hq, h2, h3, h4, _, h5⟩ := dd'
    refine d_write I2 (by rw [e]; exact True.intro) hs ⟨o, hq⟩ ⟨by rw [sizeLine_eq]; simp, hd, [(ks, b, v0)], .cons ⟨rfl, ?_, rv⟩ .nil, o, es, epn, hq, h2, h3, h4, h5⟩
    rw [upd_ne (ne_of eb e (fun z => nomatch z))]
    exact eb
theorem PE.or {t t' : TE} (h : PE X e t) (h' : PE X e t') : PE X e (fun σ H Q => t σ H Q ∨ t' σ H Q) := ⟨fun pins s σ H Q I q => q.elim (h.run pins s σ H Q I) (h'.run pins s σ H Q I)⟩
theorem dct_k {ls : LEs} {trs : List (TE × TE)} {g : G} {loc : Loc} {σ : L2.St} {Q : VK} (h2 : ∀ σ H Q, tPrs c U W ls σ H Q → tPairs trs σ H Q) (hn : lenEs ls ≤ 30) (ok : GOk c g) (lo : LocOk c g loc σ)
    (hev : ∀ vs S1, evEs U ls loc g.S = .ok vs S1 → ∀ ds S3, takes S1 vs = some (ds, S3) → pairsA ds ≠ none)
    (out : Out c g W σ (evE U (.dct ls) loc g.S) (fun v g' => ∀ w, RepV c g' v w → Q w g'.H)) : tDisp trs σ g.H Q := by
  intro p hp
  have out2 := Out.hide (o := .dK []) (.inr (.inl ⟨[], rfl⟩)) ok hp (Out.bind out)
  obtain ⟨okH, lH⟩ := hide_ok (o := .dK []) (.inr (.inl ⟨[], rfl⟩)) ok hp
  have loH : LocOk c ⟨p :: g.hid, g.ρ, g.S, upd g.H p (.dK [])⟩ loc σ := ⟨lo.len, fun i v q => let ⟨w, e1, e2⟩ := lo.at_ i v q; ⟨w, e1, e2.lw ok lH.lw⟩⟩
  refine h2 _ _ _ ⟨⟨p :: g.hid, g.ρ, g.S, upd g.H p (.dK [])⟩, loc, rfl, okH, loH, Out.imp' out2 fun vs2 g2 eq ⟨l2, ok2, ed, le1, ok1, out1⟩ ws rws => ?_⟩
  refine ⟨ed, ?_⟩
  obtain ⟨⟨ds, S3⟩, ht, o3⟩ := Out.opt out1
  obtain ⟨kvs, hk⟩ : ∃ kvs, pairsA ds = some kvs := by
    cases hp : pairsA ds with
    | none => exact absurd hp (hev _ _ eq _ _ ht)
    | some kvs => exact ⟨kvs, rfl⟩
  have o4 : Out c ⟨g.hid, g2.ρ, g2.S, fun a => if a = p then none else g2.H a⟩ W σ (dctR ds S3) _ := o3
  unfold dctR at o4
  rw [hk] at o4
  obtain ⟨okt, let_, rt⟩ := takes_ok ok2 rws ht
  have lt := l2.le let_
  obtain ⟨oke, lee, me⟩ := out_ok (g' := { g2 with S := S3 }) okt lt hp (.inr (.inl ⟨[], rfl⟩)) ed
  obtain ⟨us, e1, e2, e3⟩ := pairs_rep (g := { g2 with S := S3 }) hk rt
  have hlen : ds.length ≤ 30 := by rw [takes_len ht, evEs_len eq]; exact hn
  have hle : kvs.length ≤ 15 := by omega
  refine ⟨us, e1, by rw [← e2.length]; exact hle, ?_⟩
  have hp2 : (⟨g.hid, g2.ρ, S3, fun a => if a = p then none else g2.H a⟩ : G).H p = none := if_pos rfl
  have fl : (kvs.foldl (fun a q => putA a q.1 q.2) []).length ≤ lim := by
    have q := fold_len (ms := kvs) (ks := [])
    exact small_lim (by simp only [List.length_nil] at q; omega)
  have okn := gok_moreD (g := ⟨g.hid, g2.ρ, S3, fun a => if a = p then none else g2.H a⟩) oke hp2 fl ((e2.mo me).fold .nil)
  have len_ := le_more (g := ⟨g.hid, g2.ρ, S3, fun a => if a = p then none else g2.H a⟩) (x := .dic (kvs.foldl (fun a q => putA a q.1 q.2) [])) (o := .dK (mergeK [] us)) oke hp2
  have lcut : Le ⟨g.hid, g2.ρ, g2.S, fun a => if a = p then none else g2.H a⟩ ⟨g.hid, g2.ρ, S3, fun a => if a = p then none else g2.H a⟩ := by
    refine ⟨List.prefix_refl _, rfl, fun _ _ => rfl, fun a o h n t => ⟨h, fun z => ?_⟩, fun _ q => q⟩
    have h : (if a = p then none else g2.H a) = some o := h
    have hap : a ≠ p := fun z => by rw [if_pos z] at h; cases h
    rw [if_neg hap] at h
    have nl : ¬ live g2 a := fun z => n (by
      rcases z with z | z
      · rw [l2.hid] at z
        rcases List.mem_cons.mp z with z | z
        · exact absurd z hap
        · exact .inl z
      · exact .inr z)
    refine (let_.keep a o h nl t).2 ?_
    rcases z with z | z
    · exact .inl (by show a ∈ g2.hid; rw [l2.hid]; exact List.mem_cons_of_mem _ z)
    · exact .inr z
  have q := o4 (g2.ρ ++ [p]) (upd (fun a => if a = p then none else g2.H a) p (.dK (mergeK [] us))) okn (lcut.trans len_) (.ref p) (.ref (by
    show (g2.ρ ++ [p])[_]? = _
    rw [← okt.len]; simp))
  have e : upd (fun a => if a = p then none else g2.H a) p (.dK (mergeK [] us)) = upd g2.H p (.dK (mergeK [] us)) := by
    funext a
    by_cases ha : a = p
    · rw [ha, upd_same, upd_same]
    · rw [upd_ne ha, upd_ne ha, if_neg ha]
  have q : Q (.ref p) (upd (fun a => if a = p then none else g2.H a) p (.dK (mergeK [] us))) := q
  rw [e] at q
  exact q
theorem dct_t {ls : LEs} {trs : List (TE × TE)} {g : G} {loc : Loc} {σ : L2.St} {Q : VK} (h2 : ∀ σ H Q, tPrs c U W ls σ H Q → tPairs trs σ H Q) (ok : GOk c g) (lo : LocOk c g loc σ)
    (hev : ∀ vs S1, evEs U ls loc g.S = .ok vs S1 → ∀ ds S3, takes S1 vs = some (ds, S3) → ∃ k x y, ds = [k, x] ∧ keyT k = some y)
    (out : Out c g W σ (evE U (.dct ls) loc g.S) (fun v g' => ∀ w, RepV c g' v w → Q w g'.H)) : tDispT trs σ g.H Q := by
  intro p hp
  have out2 := Out.hide (o := .dT []) (.inr (.inr ⟨[], rfl⟩)) ok hp (Out.bind out)
  obtain ⟨okH, lH⟩ := hide_ok (o := .dT []) (.inr (.inr ⟨[], rfl⟩)) ok hp
  have loH : LocOk c ⟨p :: g.hid, g.ρ, g.S, upd g.H p (.dT [])⟩ loc σ := ⟨lo.len, fun i v q => let ⟨w, e1, e2⟩ := lo.at_ i v q; ⟨w, e1, e2.lw ok lH.lw⟩⟩
  refine h2 _ _ _ ⟨⟨p :: g.hid, g.ρ, g.S, upd g.H p (.dT [])⟩, loc, rfl, okH, loH, Out.imp' out2 fun vs2 g2 eq ⟨l2, ok2, ed, le1, ok1, out1⟩ ws rws => ?_⟩
  refine ⟨ed, ?_⟩
  obtain ⟨⟨ds, S3⟩, ht, o3⟩ := Out.opt out1
  obtain ⟨k, x, y, rfl, hy⟩ := hev _ _ eq _ _ ht
  have hk0 : pairsA [k, x] = none := by
    have e : keyT k ≠ none := by rw [hy]; simp
    cases k with
    | tup _ => rfl
    | _ => exact absurd rfl e
  have o4 : Out c ⟨g.hid, g2.ρ, g2.S, fun a => if a = p then none else g2.H a⟩ W σ (dctR [k, x] S3) _ := o3
  unfold dctR at o4
  rw [hk0] at o4
  obtain ⟨y', hy', o4⟩ := Out.opt o4
  rw [hy] at hy'
  cases hy'
  obtain ⟨okt, let_, rt⟩ := takes_ok ok2 rws ht
  have lt := l2.le let_
  obtain ⟨oke, lee, me⟩ := out_ok (g' := { g2 with S := S3 }) okt lt hp (.inr (.inr ⟨[], rfl⟩)) ed
  cases rt with
  | @cons _ wk _ _ rk rt =>
  cases rt with
  | @cons _ wx _ _ rx rt =>
  cases rt
  obtain ⟨b, rfl, hb⟩ := key_rep hy rk
  refine ⟨b, y.map Sum.inl, wx, rfl, hb, ?_⟩
  have hp2 : (⟨g.hid, g2.ρ, S3, fun a => if a = p then none else g2.H a⟩ : G).H p = none := if_pos rfl
  have okn := gok_moreT (ks := [(y, x)]) (g := ⟨g.hid, g2.ρ, S3, fun a => if a = p then none else g2.H a⟩) oke hp2 (show 1 ≤ lim by decide) (.cons (Rep.mo me _ _ rx) .nil)
  have len_ := le_more (g := ⟨g.hid, g2.ρ, S3, fun a => if a = p then none else g2.H a⟩) (x := .dit [(y, x)]) (o := .dT [(y.map Sum.inl, wx)]) oke hp2
  have lcut : Le ⟨g.hid, g2.ρ, g2.S, fun a => if a = p then none else g2.H a⟩ ⟨g.hid, g2.ρ, S3, fun a => if a = p then none else g2.H a⟩ := by
    refine ⟨List.prefix_refl _, rfl, fun _ _ => rfl, fun a o h n t => ⟨h, fun z => ?_⟩, fun _ q => q⟩
    have h : (if a = p then none else g2.H a) = some o := h
    have hap : a ≠ p := fun z => by rw [if_pos z] at h; cases h
    rw [if_neg hap] at h
    have nl : ¬ live g2 a := fun z => n (by
      rcases z with z | z
      · rw [l2.hid] at z
        rcases List.mem_cons.mp z with z | z
        · exact absurd z hap
        · exact .inl z
      · exact .inr z)
    refine (let_.keep a o h nl t).2 ?_
    rcases z with z | z
    · exact .inl (by show a ∈ g2.hid; rw [l2.hid]; exact List.mem_cons_of_mem _ z)
    · exact .inr z
  have q := o4 (g2.ρ ++ [p]) (upd (fun a => if a = p then none else g2.H a) p (.dT [(y.map Sum.inl, wx)])) okn (lcut.trans len_) (.ref p) (.ref (by
    show (g2.ρ ++ [p])[_]? = _
    rw [← okt.len]; simp))
  have e : upd (fun a => if a = p then none else g2.H a) p (.dT [(y.map Sum.inl, wx)]) = upd g2.H p (.dT [(y.map Sum.inl, wx)]) := by
    funext a
    by_cases ha : a = p
    · rw [ha, upd_same, upd_same]
    · rw [upd_ne ha, upd_ne ha, if_neg ha]
  have q : Q (.ref p) (upd (fun a => if a = p then none else g2.H a) p (.dT [(y.map Sum.inl, wx)])) := q
  rw [e] at q
  exact q
theorem se_dct {ks : List (Option Expr)} {vs : List Expr} {ls : LEs} (hu : X.A.units + 200 < cLine) (h : SD c U W X pos ls ks vs) (hall : ks.all (·.isSome) = true) (hl : ks.length = vs.length) (h0 : ks ≠ []) (h15 : ks.length ≤ 15) (hn : lenEs ls ≤ 30) : PE X (.Dict ks vs pos) (tEv c U W (.dct ls)) := by
  obtain ⟨trs, h1, h2⟩ := h
  refine PE.imp (PE.or (pe_disp h1 hall hl h0 h15) (pe_dispT hu h1 hall hl h0 h15)) fun σ H Q => ?_
  rintro ⟨g, loc, rfl, ok, lo, out⟩
  by_cases hev : ∀ vs S1, evEs U ls loc g.S = .ok vs S1 → ∀ ds S3, takes S1 vs = some (ds, S3) → pairsA ds ≠ none
  · exact .inl (dct_k h2 hn ok lo hev out)
  · refine .inr (dct_t h2 ok lo (fun vs S1 e1 ds S3 e2 => ?_) out)
    have hp : pairsA ds = none := by
      cases hq : pairsA ds with
      | none => rfl
      | some kvs =>
        exact absurd (fun vs' S1' e1' ds' S3' e2' => by
          rw [e1] at e1'; cases e1'
          rw [e2] at e2'; cases e2'
          rw [hq]; simp) hev
    have e : evE U (.dct ls) loc g.S = dctR ds S3 := by
      simp only [evE, e1, R.bind_ok, e2, R.opt_some]
    rw [e] at out
    unfold dctR at out
    rw [hp] at out
    match ds, hp, out with
    | [], hp, _ => cases hp
    | [d], _, out => exact False.elim out
    | [k, x], _, out =>
      obtain ⟨y, hy, _⟩ := Out.opt out
      exact ⟨k, x, y, rfl, hy⟩
    | _ :: _ :: _ :: _, _, out => exact False.elim out
theorem se_dct0 : PE X (.Dict [] [] pos) (tEv c U W (.dct .nil)) := PE.imp pe_dnewK fun σ H Q => by
  rintro ⟨g, loc, rfl, ok, lo, out⟩
  intro p hp
  have out : Out c g W σ (R.ok (Vl.ref g.S.length) (g.S ++ [.dic []])) (fun v g' => ∀ w, RepV c g' v w → Q w g'.H) := out
  refine out (g.ρ ++ [p]) (upd g.H p (.dK [])) (gok_moreD ok hp (Nat.zero_le _) .nil) (le_more ok hp) (.ref p) (.ref ?_)
  rw [← ok.len]; simp
theorem swSub {o i : Expr} {p : Pos} {n : Nat} {env : PySem.Env} : swapsWith e (some (.Subscript o i p)) n env = pure false := by
  cases e <;> rfl
theorem asg_sub {o i : Expr} {env : PySem.Env} (h : plainX i = true) (v : Value) : assign (.Subscript o i p2) env v = (do
      let ov ← holding [v] (eval o env)
      let iv ← holding [v, ov] (eval i env)
      standAt p2
      holding [v, ov, iv] (setItem ov iv v)
      release [v, ov, iv] []) := by
  cases i <;> first | rfl | cases h
theorem PSet.or {t t' : TSet} (h : PSet X t) (h' : PSet X t') : PSet X (fun o i v H Q => t o i v H Q ∨ t' o i v H Q) := by
  intro pins s σ H o i v ov iv u Q I ro ri rv q
  rcases q with q | q
  · exact h pins s σ H o i v ov iv u Q I ro ri rv q
  · exact h' pins s σ H o i v ov iv u Q I ro ri rv q
theorem s_sub (hu : X.A.units + 200 < cLine) (hp : plainX b = true) (ha : PE X a (tEv c U W la)) (hb : PE X b (tEv c U W lb)) (he : PE X e (tEv c U W l)) :
    PS X (.Assign [.Subscript a b p2] e pos) (tS c U W (.sub la lb l)) := PS.imp (ps_asg he (pg_sub (pos := p2) ha hb (PSet.or set_list (set_dict (by omega))) (asg_sub hp)) (by show swapsWith e (some (.Subscript a b p2)) pos.line X.env = _; exact swSub) (by cases e <;> rfl) rfl) fun E σ H => by
  rintro ⟨g, loc, rfl, ok, lo, out⟩
  refine ⟨g, loc, rfl, ok, lo, (OutS.st ok lo out).imp fun v g1 ⟨le1, ok1, out1⟩ w rw1 => ?_⟩
  have lo1 := lo.le ok le1
  refine ⟨g1, loc, rfl, ok1, lo1, (OutS.st ok1 lo1 out1).imp fun v2 g2 ⟨le2, ok2, out2⟩ w2 rw2 => ?_⟩
  have lo2 := lo1.le ok1 le2
  refine ⟨g2, loc, rfl, ok2, lo2, (OutS.st ok2 lo2 out2).imp fun v3 g3 ⟨le3, ok3, out3⟩ w3 rw3 => ?_⟩
  have lo3 := lo2.le ok2 le3
  have r1 := (rw1.le ok1 le2).le ok2 le3
  have r2 := rw2.le ok2 le3
  cases r2 with
  | @ref n p ep =>
    cases rw3 with
    | @d kd _ r3 =>
      have out3 : OutS c g3 W E (RS.opt (take g3.S v) fun p => subC loc n kd p.1 p.2) := out3
      obtain ⟨⟨x, S4⟩, ht, out4⟩ := OutS.opt out3
      obtain ⟨ok4, le4, r4⟩ := take_ok ok3 r1 ht
      have out4 : OutS c g3 W E (subC loc n kd x S4) := out4
      unfold subC at out4
      split at out4
      · rename_i ds hds
        cases kd with
        | int j =>
          cases r3
          obtain ⟨m, hm, out5⟩ := OutS.opt out4
          obtain ⟨vs, hv, hl, rr⟩ := ok4.cell n p _ ep hds
          refine .inl ⟨p, vs, j, m, rfl, rfl, hv, by rw [← ixI_eq, ← rr.length]; exact hm, ?_⟩
          have ok5 := gok_set (g := { g3 with S := S4 }) ok4 ep hds rfl (by rw [List.length_set]; exact hl) (Reps.set r4 m rr)
          have le5 := le_set (g := { g3 with S := S4 }) (x := .lst (ds.set m x)) (o := .lst (vs.set m w)) ok4 ep hds rfl
          exact OutS.nx (g := ⟨g3.hid, g3.ρ, S4.set n (.lst (ds.set m x)), upd g3.H p (.lst (vs.set m w))⟩) (OutS.le (OutS.le out5 le4) le5) ok5 ((lo3.le ok3 le4).le ok4 le5)
        | _ => exact False.elim out4
      · rename_i kvs hds
        obtain ⟨y, hy, out5⟩ := OutS.opt out4
        split at out5
        · rename_i hlt
          obtain ⟨rfl, oy⟩ := kyOf_rep r3 hy
          obtain ⟨vs, hv, hl, rr⟩ := ok4.cell n p _ ep hds
          refine .inr ⟨p, _, rfl, DPut.k hv (by rw [← rr.length, ← lim_eq]; exact hlt), ?_⟩
          have hl2 : (putA kvs y x).length ≤ lim := Nat.le_trans putA_len hlt
          have ok5 := gok_setD (g := { g3 with S := S4 }) ok4 ep hds rfl hl2 (rr.put oy r4)
          have le5 := le_set (g := { g3 with S := S4 }) (x := .dic (putA kvs y x)) (o := .dK (putK vs (toK y) w)) ok4 ep hds rfl
          exact OutS.nx (g := ⟨g3.hid, g3.ρ, S4.set n (.dic (putA kvs y x)), upd g3.H p (.dK (putK vs (toK y) w))⟩) (OutS.le (OutS.le out5 le4) le5) ok5 ((lo3.le ok3 le4).le ok4 le5)
        · exact out5.elim
      · rename_i kvs hds
        obtain ⟨y, hy, out5⟩ := OutS.opt out4
        split at out5
        · rename_i hlt
          obtain ⟨b, rfl, hb⟩ := key_rep hy r3
          obtain ⟨vs, hv, hl, rr⟩ := ok4.cell n p _ ep hds
          refine .inr ⟨p, _, rfl, DPut.t hv hb (by rw [← rr.length, ← lim_eq]; exact hlt), ?_⟩
          have hl2 : (putA kvs y x).length ≤ lim := Nat.le_trans putA_len hlt
          have ok5 := gok_setT (g := { g3 with S := S4 }) ok4 ep hds rfl hl2 (rr.put r4)
          have le5 := le_set (g := { g3 with S := S4 }) (x := .dit (putA kvs y x)) (o := .dT (putK vs (y.map Sum.inl) w)) ok4 ep hds rfl
          exact OutS.nx (g := ⟨g3.hid, g3.ρ, S4.set n (.dit (putA kvs y x)), upd g3.H p (.dT (putK vs (y.map Sum.inl) w))⟩) (OutS.le (OutS.le out5 le4) le5) ok5 ((lo3.le ok3 le4).le ok4 le5)
        · exact out5.elim
      · exact out4.elim
    | _ => exact False.elim out3
  | _ => cases rw3 <;> exact False.elim out3
theorem s_if (hc : PT X e (tTv c U W l)) (ha : PSs X sa (tSs c U W tsa)) (hb : PSs X sb (tSs c U W tsb)) : PS X (.If e sa sb pos) (tS c U W (.ife l tsa tsb)) := PS.imp (ps_if hc ha hb) fun E σ H => by
  rintro ⟨g, loc, rfl, ok, lo, out⟩
  refine ⟨g, loc, rfl, ok, lo, (OutS.st ok lo out).imp fun v g1 ⟨le1, ok1, out1⟩ => ?_⟩
  obtain ⟨k, hk, q⟩ := OutS.opt out1
  refine ⟨k, hk, ?_⟩
  cases k with
  | true => exact ⟨g1, loc, rfl, ok1, lo.le ok le1, q⟩
  | false => exact ⟨g1, loc, rfl, ok1, lo.le ok le1, q⟩
/-- one turn's ends -/
theorem turn_ends {g1 : G} {loc : Loc} {σ : L2.St} {E : L2.Ends} {N : L2.St → Hp → Prop} {K : Loc → Sto → RS} (ok1 : GOk c g1) (lo1 : LocOk c g1 loc σ)
    (out : OutS c g1 W E (match evSs U tsa loc g1.S with | .nx l2 S2 => K l2 S2 | .ct l2 S2 => K l2 S2 | .bk l2 S2 => .nx l2 S2 | r => r))
    (hN : ∀ (g2 : G) (l2 : Loc) (σ2 : L2.St), GOk c g2 → Le g1 g2 → LocOk c g2 l2 σ2 → OutS c g2 W E (K l2 g2.S) → N σ2 g2.H) :
    tSs c U W tsa { E with nx := N, ct := N, bk := E.nx } σ g1.H := by
  refine ⟨g1, loc, rfl, ok1, lo1, ?_⟩
  cases hr : evSs U tsa loc g1.S with
  | nx l2 S2 =>
    rw [hr] at out
    intro ρ' H' σ' ok2 le2 lo2
    exact hN ⟨g1.hid, ρ', S2, H'⟩ l2 σ' ok2 le2 lo2 (OutS.le (g := g1) out le2)
  | ct l2 S2 =>
    rw [hr] at out
    intro ρ' H' σ' ok2 le2 lo2
    exact hN ⟨g1.hid, ρ', S2, H'⟩ l2 σ' ok2 le2 lo2 (OutS.le (g := g1) out le2)
  | bk l2 S2 =>
    rw [hr] at out
    intro ρ' H' σ' ok2 le2 lo2
    exact out ρ' H' σ' ok2 le2 lo2
  | ret v S2 => rw [hr] at out; exact out
  | exc n xs l2 S2 => rw [hr] at out; exact out
  | stuck => rw [hr] at out; exact out
theorem whileGo_succ {cn : Loc → Sto → R Bool} {b : Loc → Sto → RS} {k : Nat} {l : Loc} {S : Sto} : whileGo cn b (k + 1) l S = (cn l S).st l fun t S1 => if t then (match b l S1 with | .nx l2 S2 => whileGo cn b k l2 S2 | .ct l2 S2 => whileGo cn b k l2 S2 | .bk l2 S2 => .nx l2 S2 | r => r) else .nx l S1 := by
  simp only [whileGo] <;> rfl
theorem s_while (hp : PassesOwn (model X.prog X.w) X.A X.env X.xe) (hc : PT X e (tTv c U W l)) (ha : PSs X sa (tSs c U W tsa)) : PS X (.While e sa [] pos) (tS c U W (.while_ l tsa)) := PS.imp (ps_while hp hc ha) fun E σ H => by
  rintro ⟨g, loc, rfl, ok, lo, out⟩
  refine ⟨fun m σ H => ∃ (g' : G) (l' : Loc), g'.H = H ∧ GOk c g' ∧ LocOk c g' l' σ ∧ OutS c g' W E (whileGo (fun l0 S => (evE U l l0 S).bind fun v S1 => R.opt (asBool v) fun k => .ok k S1) (evSs U tsa) m l' g'.S), ⟨U.wf, g, loc, rfl, ok, lo, out⟩, ?_⟩
  rintro m σ H ⟨g', l', rfl, ok', lo', o⟩
  refine ⟨g', l', rfl, ok', lo', ?_⟩
  cases m with
  | zero => exact o.elim
  | succ k =>
    rw [whileGo_succ] at o
    have o1 := OutS.st ok' lo' o
    cases hr : evE U l l' g'.S with
    | exc n xs S' => rw [hr] at o1; exact fun ρ' H' d ok2 le2 ex => o1 ρ' H' d ok2 le2 ex
    | stuck => rw [hr] at o1; exact o1
    | ok v S1 =>
      rw [hr] at o1
      intro ρ1 H1 ok1 le1
      have lo1 := lo'.le ok' le1
      have o2 : Out c g' W σ (R.opt (asBool v) fun k => R.ok k S1) _ := o1
      obtain ⟨t, ht, o3⟩ := Out.opt o2
      refine ⟨t, ht, ?_⟩
      obtain ⟨_, _, o4⟩ := o3 ρ1 H1 ok1 le1
      cases t with
      | false => exact OutS.nx (g := ⟨g'.hid, ρ1, S1, H1⟩) o4 ok1 lo1
      | true =>
        simp only [if_true] at o4 ⊢
        refine ⟨fun σ2 H2 => ∃ (g2 : G) (l2 : Loc), g2.H = H2 ∧ GOk c g2 ∧ LocOk c g2 l2 σ2 ∧ OutS c g2 W E (whileGo (fun l0 S => (evE U l l0 S).bind fun v S1 => R.opt (asBool v) fun k => .ok k S1) (evSs U tsa) k l2 g2.S), ?_, ?_⟩
        · rintro σ2 H2 ⟨g2, l2, rfl, ok2, lo2, o5⟩
          exact ⟨k, Nat.lt_succ_self k, g2, l2, rfl, ok2, lo2, o5⟩
        · exact turn_ends (g1 := ⟨g'.hid, ρ1, S1, H1⟩) ok1 lo1 o4 fun g2 l2 σ2 ok2 le2 lo2 o5 => ⟨g2, l2, rfl, ok2, lo2, o5⟩
theorem forGo_cons {t : LT} {b : Loc → Sto → RS} {x : D} {xs : List D} {l : Loc} {S : Sto} : forGo t b (x :: xs) l S = (match setT t x l with
    | none => .stuck
    | some l' => (match b l' S with | .nx l2 S2 => forGo t b xs l2 S2 | .ct l2 S2 => forGo t b xs l2 S2 | .bk l2 S2 => .nx l2 S2 | r => r)) := by
  simp only [forGo] <;> rfl
theorem forRef_succ {t : LT} {b : Loc → Sto → RS} {n k i : Nat} {l : Loc} {S : Sto} : forRef t b n (k + 1) i l S = (match (S : List Cell)[n]? with
    | some (.lst ds) => (match ds[i]? with
      | none => .nx l S
      | some x => (match setT t x l with
        | none => .stuck
        | some l' => (match b l' S with | .nx l2 S2 => forRef t b n k (i + 1) l2 S2 | .ct l2 S2 => forRef t b n k (i + 1) l2 S2 | .bk l2 S2 => .nx l2 S2 | r => r)))
    | _ => .stuck) := by
  simp only [forRef] <;> rfl
theorem s_for {tg iter : Expr} {lg : LI} {t : LT} (hp : PassesOwn (model X.prog X.w) X.A X.env X.xe) (hc : X.calm = true) (hi : PI X tg iter (tIv c U W lg)) (hg : PG X tg (tG c t)) (ha : PSs X sa (tSs c U W tsa)) (hs : ∀ x, foldedSetIterable iter X.env x = pure x) :
    PS X (.For tg iter sa [] pos) (tS c U W (.for_ t lg tsa)) := PS.imp (ps_for hp hc hi hg ha hs) fun E σ H => by
  rintro ⟨g, loc, rfl, ok, lo, out⟩
  refine ⟨g, loc, rfl, ok, lo, (OutS.st ok lo out).imp fun src g1 ⟨le1, ok1, out1⟩ J wk => ?_⟩
  have lo1 := lo.le ok le1
  cases src with
  | items ds =>
    refine ⟨fun i m σ H => ∃ (g' : G) (l' : Loc), g'.H = H ∧ GOk c g' ∧ LocOk c g' l' σ ∧ Le g1 g' ∧ m = ds.length - i ∧ i ≤ ds.length ∧ OutS c g' W E (forGo t (evSs U tsa) (ds.drop i) l' g'.S), ⟨ds.length, g1, loc, rfl, ok1, lo1, Le.refl g1, rfl, Nat.zero_le _, out1⟩, ?_⟩
    rintro i m σ H ⟨g', l', rfl, ok', lo', le', rfl, hi, o⟩
    obtain ⟨w1, w2⟩ := wk g' ok' le'.lw
    by_cases hlt : i < ds.length
    · have hx : ds[i]? = some ds[i] := List.getElem?_eq_getElem hlt
      obtain ⟨hgo, hy⟩ := w1 i _ hx
      rw [List.drop_eq_getElem_cons hlt, forGo_cons] at o
      refine .inr ⟨hgo, fun σ2 H2 => ∃ (g2 : G) (l2 : Loc), g2.H = H2 ∧ GOk c g2 ∧ LocOk c g2 l2 σ2 ∧ Le g1 g2 ∧ OutS c g2 W E (forGo t (evSs U tsa) (ds.drop (i + 1)) l2 g2.S), ?_, fun w H' y => ?_⟩
      · rintro σ2 H2 ⟨g2, l2, rfl, ok2, lo2, le2, o2⟩
        exact ⟨ds.length - (i + 1), by omega, g2, l2, rfl, ok2, lo2, le2, rfl, hlt, o2⟩
      · obtain ⟨ok2, le2, rx⟩ := hy w H' y
        split at o
        · exact o.elim
        · rename_i l2 hs2
          refine ⟨{ g' with H := H' }, l', l2, _, rfl, ok2, lo'.le ok' le2, rx, hs2, fun σ2 lo2 _ => ?_⟩
          exact turn_ends (g1 := { g' with H := H' }) ok2 lo2 (OutS.le o le2) fun g3 l3 σ3 ok3 le3 lo3 o3 => ⟨g3, l3, rfl, ok3, lo3, le'.trans (le2.trans le3), o3⟩
    · have e : i = ds.length := by omega
      subst e
      rw [List.drop_length] at o
      exact .inl ⟨w2, OutS.nx (g := g') o ok' lo'⟩
  | live n =>
    refine ⟨fun i m σ H => ∃ (g' : G) (l' : Loc), g'.H = H ∧ GOk c g' ∧ LocOk c g' l' σ ∧ Le g1 g' ∧ OutS c g' W E (forRef t (evSs U tsa) n m i l' g'.S), ⟨U.wf, g1, loc, rfl, ok1, lo1, Le.refl g1, out1⟩, ?_⟩
    rintro i m σ H ⟨g', l', rfl, ok', lo', le', o⟩
    cases m with
    | zero => exact o.elim
    | succ k =>
      rw [forRef_succ] at o
      split at o
      · rename_i ds hds
        obtain ⟨w1, w2⟩ := wk g' ds ok' le'.lw hds
        split at o
        · rename_i hn
          exact .inl ⟨w2 i (by simpa using hn), OutS.nx (g := g') o ok' lo'⟩
        · rename_i x hx
          obtain ⟨hgo, hy⟩ := w1 i _ hx
          refine .inr ⟨hgo, fun σ2 H2 => ∃ (g2 : G) (l2 : Loc), g2.H = H2 ∧ GOk c g2 ∧ LocOk c g2 l2 σ2 ∧ Le g1 g2 ∧ OutS c g2 W E (forRef t (evSs U tsa) n k (i + 1) l2 g2.S), ?_, fun w H' y => ?_⟩
          · rintro σ2 H2 ⟨g2, l2, rfl, ok2, lo2, le2, o2⟩
            exact ⟨k, Nat.lt_succ_self k, g2, l2, rfl, ok2, lo2, le2, o2⟩
          · obtain ⟨ok2, le2, rx⟩ := hy w H' y
            split at o
            · exact o.elim
            · rename_i l2 hs2
              refine ⟨{ g' with H := H' }, l', l2, _, rfl, ok2, lo'.le ok' le2, rx, hs2, fun σ2 lo2 _ => ?_⟩
              exact turn_ends (g1 := { g' with H := H' }) ok2 lo2 (OutS.le o le2) fun g3 l3 σ3 ok3 le3 lo3 o3 => ⟨g3, l3, rfl, ok3, lo3, le'.trans (le2.trans le3), o3⟩
      · exact o.elim
end
end EV
end

section
set_option Elab.async false
set_option linter.all false
set_option maxRecDepth 100000
set_option maxHeartbeats 4000000
/-! EVZ: list(zip(a, b)) of two tuples, at the library's level -/
namespace EVZ
open PySem
open PySem.Sem (wp)
open PySem.W (kdx_alive)
section
variable {P : Program} {w : World} {A : Around} {E : Value → Shared → Prop} {t : Shared} {zp ti tu p1 p2 m1 m2 T : Addr} {b : Bool} {oT : Obj} {xs ys : Array Value}
theorem zipT_item {i j : Nat} {x y : Value} {Q : Value → Shared → Prop} (D : ZipApart zp ti tu p1 p2 m1 m2) (zz : IsZipHeld t.heap zp ti tu T b) (zT : t.heap.get? T = some oT) (zI : IsPair t.heap ti (.ref p1) (.ref p2))
    (a1 : t.heap.IsTupleIter p1 m1 i) (a2 : t.heap.IsTupleIter p2 m2 j) (c1 : t.heap.IsTuple m1 xs) (c2 : t.heap.IsTuple m2 ys) (ex : xs[i]? = some x) (ey : ys[j]? = some y)
    (q : ∀ h', IsZipHeld h' zp ti tu T true → h'.IsTupleIter p1 m1 (i + 1) → h'.IsTupleIter p2 m2 (j + 1) → IsPair h' t.heap.objs.size x y → h'.objs.size = t.heap.objs.size + 1 →
      (∀ c o, c ≠ zp → c ≠ p1 → c ≠ p2 → t.heap.get? c = some o → h'.get? c = some o) → Q (.ref t.heap.objs.size) { t with heap := h' }) :
    wpAny (model P w) A (Builtin.«zip.__next__» ⟨[.ref zp], []⟩) (fun fin s' => ∃ v, fin = .done (.ret v) ∧ Q v s') E t := by
  show wpAny _ _ (field (.ref zp) 2 >>= _) _ _ _
  refine wpAny_bind (wpAny_field zz rfl (x := .bool false) rfl ?_)
  show wpAny _ _ (field (.ref zp) 3 >>= _) _ _ _
  refine wpAny_bind (wpAny_field zz rfl (x := .ref ti) rfl (wpAny_bind (wpAny_seqItems zI rfl ?_)))
  show wpAny _ _ (Builtin.SmallTypes.ownedTupleIsFree (.ref zp) >>= _) _ _ _
  refine wpAny_bind (wpAny_tupleHeld_zip zz zT fun g1 zz1 s1 => ?_)
  simp only [if_false, Bool.false_eq_true]
  apply wpAny_bind
  rw [← Array.forIn_toList]
  simp only [List.forIn_nil, List.forIn_cons]
  apply wpAny_bind
  refine wpAny_bind (wpAny_holding ?_)
  show wpAny _ _ (Builtin.SmallTypes.nextOf (.ref p1) >>= _) _ _ _
  have k1 := s1.extBut
  refine wpAny_bind (RZ.nextOf_tuple_item (s := { t with heap := g1 }) (a1.extBut k1 D.i1z) (c1.extBut k1 D.l1z) ex fun g2 b1 s2 => wpAny_pure (wpAny_pure ?_))
  apply wpAny_bind
  refine wpAny_bind (wpAny_holding ?_)
  show wpAny _ _ (Builtin.SmallTypes.nextOf (.ref p2) >>= _) _ _ _
  have k2 := s2.extBut
  refine wpAny_bind (RZ.nextOf_tuple_item (s := { t with heap := g2 }) ((a2.extBut k1 D.i2z).extBut k2 D.i12.symm) ((c2.extBut k1 D.l2z).extBut k2 D.l2i1) ey fun g3 b2 s3 => wpAny_pure (wpAny_pure (wpAny_pure ?_)))
  have k3 := s3.extBut
  show wpAny _ _ (newTuple [x, y] >>= _) _ _ _
  refine wpAny_bind (wpAny_newTuple (wpAny_pure ⟨_, rfl, ?_⟩))
  have sz : g3.objs.size = t.heap.objs.size := by rw [s3.1, s2.1, s1.1]
  have zz3 : IsZipHeld g3 zp ti tu T true := k3 _ _ D.i2z.symm (k2 _ _ D.i1z.symm zz1)
  have b13 : g3.IsTupleIter p1 m1 (i + 1) := b1.extBut k3 D.i12
  show Q (.ref g3.objs.size) _
  have pr : IsPair (g3.push { cls := .type "tuple", data := .seq #[x, y] }) g3.objs.size x y := Heap.get?_push_size _ rfl
  have sz4 : (g3.push { cls := .type "tuple", data := .seq #[x, y] }).objs.size = g3.objs.size + 1 := Heap.size_push ..
  rw [sz] at pr sz4 ⊢
  refine q _ (Heap.get?_push_of_some _ zz3) (b13.at fun o e => ?_) (b2.at fun o e => ?_) pr sz4 fun c o n1 n2 n3 e => ?_
  · exact Heap.get?_push_of_some _ e
  · exact Heap.get?_push_of_some _ e
  · exact Heap.get?_push_of_some _ (k3 c o n3 (k2 c o n2 (k1 c o n1 e)))
theorem zipT_end {i j : Nat} {Q : Fin → Shared → Prop} (hh : A.handled = none) (D : ZipApart zp ti tu p1 p2 m1 m2) (zz : IsZipHeld t.heap zp ti tu T b) (zT : t.heap.get? T = some oT) (zI : IsPair t.heap ti (.ref p1) (.ref p2))
    (a1 : t.heap.IsTupleIter p1 m1 i) (a2 : t.heap.IsTupleIter p2 m2 j) (c1 : t.heap.IsTuple m1 xs) (c2 : t.heap.IsTuple m2 ys) (en : xs[i]? = none ∨ ys[j]? = none)
    (q : ∀ h' e, (∀ c o, c ≠ zp → c ≠ p1 → c ≠ p2 → t.heap.get? c = some o → h'.get? c = some o) → (∃ o, h'.get? e = some o ∧ o.cls = .type "StopIteration") → E (.ref e) { t with heap := h' }) :
    wpAny (model P w) A (Builtin.«zip.__next__» ⟨[.ref zp], []⟩) Q E t := by
  show wpAny _ _ (field (.ref zp) 2 >>= _) _ _ _
  refine wpAny_bind (wpAny_field zz rfl (x := .bool false) rfl ?_)
  show wpAny _ _ (field (.ref zp) 3 >>= _) _ _ _
  refine wpAny_bind (wpAny_field zz rfl (x := .ref ti) rfl (wpAny_bind (wpAny_seqItems zI rfl ?_)))
  show wpAny _ _ (Builtin.SmallTypes.ownedTupleIsFree (.ref zp) >>= _) _ _ _
  refine wpAny_bind (wpAny_tupleHeld_zip zz zT fun g1 zz1 s1 => ?_)
  simp only [if_false, Bool.false_eq_true]
  apply wpAny_bind
  rw [← Array.forIn_toList]
  simp only [List.forIn_nil, List.forIn_cons]
  apply wpAny_bind
  refine wpAny_bind (wpAny_holding ?_)
  show wpAny _ _ (Builtin.SmallTypes.nextOf (.ref p1) >>= _) _ _ _
  have k1 := s1.extBut
  cases ex : xs[i]? with
  | none => exact wpAny_bind (RZ.nextOf_tuple_end (s := { t with heap := g1 }) hh (a1.extBut k1 D.i1z) (c1.extBut k1 D.l1z) ex fun g2 e s2 he => q g2 e (fun c o n1 n2 _ z => s2 c o n2 (k1 c o n1 z)) he)
  | some x =>
    have ey : ys[j]? = none := by
      rcases en with en | en
      · rw [en] at ex; cases ex
      · exact en
    refine wpAny_bind (RZ.nextOf_tuple_item (s := { t with heap := g1 }) (a1.extBut k1 D.i1z) (c1.extBut k1 D.l1z) ex fun g2 b1 s2 => wpAny_pure (wpAny_pure ?_))
    apply wpAny_bind
    refine wpAny_bind (wpAny_holding ?_)
    show wpAny _ _ (Builtin.SmallTypes.nextOf (.ref p2) >>= _) _ _ _
    have k2 := s2.extBut
    exact wpAny_bind (RZ.nextOf_tuple_end (s := { t with heap := g2 }) hh ((a2.extBut k1 D.i2z).extBut k2 D.i12.symm) ((c2.extBut k1 D.l2z).extBut k2 D.l2i1) ey fun g3 e s3 he => q g3 e (fun c o n1 n2 n3 z => s3 c o n3 (k2 c o n2 (k1 c o n1 z))) he)
/-- where the zip stands ahead of its k-th pair; S: the list that is made -/
structure At (zp ti tu p1 p2 m1 m2 S : Addr) (xs ys : Array Value) (k : Nat) (h : Heap) : Prop where
  it1 : h.IsTupleIter p1 m1 k
  it2 : h.IsTupleIter p2 m2 k
  tp1 : h.IsTuple m1 xs
  tp2 : h.IsTuple m2 ys
  pr : IsPair h ti (.ref p1) (.ref p2)
  st : (IsZip h zp ti tu .none ∧ ∃ a c, IsPair h tu a c) ∨ ∃ T b o, IsZipHeld h zp ti tu T b ∧ h.get? T = some o ∧ T ≠ zp ∧ T ≠ p1 ∧ T ≠ p2 ∧ T ≠ S
theorem at_item {k : Nat} {S : Addr} {x y : Value} {Q : Option Value → Shared → Prop} (D : ZipApart zp ti tu p1 p2 m1 m2) (a : At zp ti tu p1 p2 m1 m2 S xs ys k t.heap) (hS : S < t.heap.objs.size) (ex : xs[k]? = some x) (ey : ys[k]? = some y)
    (q : ∀ h', At zp ti tu p1 p2 m1 m2 S xs ys (k + 1) h' → IsPair h' t.heap.objs.size x y → h'.objs.size = t.heap.objs.size + 1 → (∀ c o, c ≠ zp → c ≠ tu → c ≠ p1 → c ≠ p2 → t.heap.get? c = some o → h'.get? c = some o) → Q (some (.ref t.heap.objs.size)) { t with heap := h' }) :
    wpAny (model P w) A (pyNext (.ref zp)) Q E t := by
  have lt : ∀ {c : Addr} {o : Obj}, t.heap.get? c = some o → t.heap.objs.size ≠ c := fun e => Nat.ne_of_gt (Heap.lt_size e)
  have l1 : t.heap.objs.size ≠ p1 := by obtain ⟨o, e, _⟩ := a.it1; exact lt e
  have l2 : t.heap.objs.size ≠ p2 := by obtain ⟨o, e, _⟩ := a.it2; exact lt e
  rcases a.st with ⟨zz, u, v, zu⟩ | ⟨T, b, o, zz, zT, n1, n2, n3, n4⟩
  · refine RZ.pyNext_zipT_item D zz a.pr zu a.it1 a.it2 a.tp1 a.tp2 ex ey fun h' y1 y2 y3 y4 y5 y6 y7 => q h' ⟨y3, y4, a.tp1.at fun o e => ?_, a.tp2.at fun o e => ?_, y7 _ _ D.TIz D.TITO D.TIi1 D.TIi2 a.pr, .inr ⟨t.heap.objs.size, false, _, y1, y5, lt zz, l1, l2, Nat.ne_of_gt hS⟩⟩ y5 y6 y7
    · exact y7 _ _ D.l1z D.l1TO D.l1i1 D.l1i2 e
    · exact y7 _ _ D.l2z D.l2TO D.l2i1 D.l2i2 e
  · have ty : t.TypeIs (.ref zp) "zip" := ⟨_, zz, rfl⟩
    unfold pyNext
    refine wpAny_bind (wpAny_attempt (wpAny_callSpecial?_slot (name := Str.ofString "__next__") ty F.slot_zip_next (wpAny_call_entry F.slot_zip_next ty F.entry_zip_next ?_ (F.args_zip_next_1 _))))
    refine zipT_item D zz zT a.pr a.it1 a.it2 a.tp1 a.tp2 ex ey fun h' y1 y2 y3 y4 y5 y6 => wpAny_pure (q h' ⟨y2, y3, a.tp1.at fun o e => ?_, a.tp2.at fun o e => ?_, y6 _ _ D.TIz D.TIi1 D.TIi2 a.pr, .inr ⟨T, true, o, y1, y6 T o n1 n2 n3 zT, n1, n2, n3, n4⟩⟩ y4 y5 fun c o d1 _ d3 d4 e => y6 c o d1 d3 d4 e)
    · exact y6 _ _ D.l1z D.l1i1 D.l1i2 e
    · exact y6 _ _ D.l2z D.l2i1 D.l2i2 e
theorem at_end {k : Nat} {S : Addr} {Q : Option Value → Shared → Prop} (hh : A.handled = none) (D : ZipApart zp ti tu p1 p2 m1 m2) (a : At zp ti tu p1 p2 m1 m2 S xs ys k t.heap) (en : xs[k]? = none ∨ ys[k]? = none)
    (q : ∀ h', (∀ c o, c ≠ zp → c ≠ tu → c ≠ p1 → c ≠ p2 → t.heap.get? c = some o → h'.get? c = some o) → Q none { t with heap := h' }) :
    wpAny (model P w) A (pyNext (.ref zp)) Q E t := by
  rcases a.st with ⟨zz, u, v, zu⟩ | ⟨T, b, o, zz, zT, n1, n2, n3, n4⟩
  · exact RZ.pyNext_zipT_end hh D zz a.pr zu a.it1 a.it2 a.tp1 a.tp2 en q
  · have ty : t.TypeIs (.ref zp) "zip" := ⟨_, zz, rfl⟩
    unfold pyNext
    refine wpAny_bind (wpAny_attempt (wpAny_callSpecial?_slot (name := Str.ofString "__next__") ty F.slot_zip_next (wpAny_call_entry F.slot_zip_next ty F.entry_zip_next ?_ (F.args_zip_next_1 _))))
    refine zipT_end hh D zz zT a.pr a.it1 a.it2 a.tp1 a.tp2 en fun h' e hk ⟨oe, e1, e2⟩ => ?_
    exact wpAny_bind (wpAny_isInstance (T := "StopIteration") (b := true) ⟨oe, e1, e2⟩ isSubtype_stop (wpAny_pure (q h' fun c o d1 _ d3 d4 z => hk c o d1 d3 d4 z)))
theorem At.keep {k : Nat} {S : Addr} {h h' : Heap} (a : At zp ti tu p1 p2 m1 m2 S xs ys k h) (n1 : zp ≠ S) (n2 : ti ≠ S) (n3 : tu ≠ S) (n4 : p1 ≠ S) (n5 : p2 ≠ S) (n6 : m1 ≠ S) (n7 : m2 ≠ S) (hk : ∀ c o, c ≠ S → h.get? c = some o → h'.get? c = some o) : At zp ti tu p1 p2 m1 m2 S xs ys k h' := by
  refine ⟨a.it1.at fun o e => hk _ _ n4 e, a.it2.at fun o e => hk _ _ n5 e, a.tp1.at fun o e => hk _ _ n6 e, a.tp2.at fun o e => hk _ _ n7 e, hk _ _ n2 a.pr, ?_⟩
  rcases a.st with ⟨zz, u, v, zu⟩ | ⟨T, b, o, zz, zT, d1, d2, d3, d4⟩
  · exact .inl ⟨hk _ _ n1 zz, u, v, hk _ _ n3 zu⟩
  · exact .inr ⟨T, b, o, hk _ _ n1 zz, hk _ _ d4 zT, d1, d2, d3, d4⟩
/-- the pairs that were made, one behind the other -/
structure Prs (xs ys : Array Value) (lo : Addr) (h : Heap) (as : List Addr) : Prop where
  rise : as.Pairwise (· < ·)
  above : ∀ a ∈ as, lo < a
  pair : ∀ (j : Nat) (a : Addr), as[j]? = some a → ∃ x y, xs[j]? = some x ∧ ys[j]? = some y ∧ IsPair h a x y
theorem Prs.lt {lo : Addr} {h : Heap} {as : List Addr} (g : Prs xs ys lo h as) {a : Addr} (ha : a ∈ as) : a < h.objs.size := by
  obtain ⟨j, e⟩ := List.mem_iff_getElem?.mp ha
  obtain ⟨x, y, _, _, p⟩ := g.pair j a e
  exact Heap.lt_size p
section
variable {R : Result → Shared → Prop} {S : Addr} {n : Nat}
theorem loop (hh : A.handled = none) (D : ZipApart zp ti tu p1 p2 m1 m2) (l1 : zp < S) (l2 : ti < S) (l3 : tu < S) (l4 : p1 < S) (l5 : p2 < S) (l6 : m1 < S) (l7 : m2 < S) (hn : n = min xs.size ys.size) (hz : n ≤ sizeLine) (res : Value) {h₁ : Heap}
    (hR : ∀ h' c as, (∀ b o, b ≠ S → b ≠ zp → b ≠ tu → b ≠ p1 → b ≠ p2 → h₁.get? b = some o → h'.get? b = some o) → h'.get? S = some { cls := .type "list", dict := none, data := .seq ((as.map Value.ref).toArray) c, slots := #[] } → as.length = n → Prs xs ys S h' as →
      R (.ok (.ret res)) { t with heap := h' }) :
    ∀ (d k : Nat) (h : Heap) (c : Nat) (as : List Addr), n - k = d → k ≤ n → At zp ti tu p1 p2 m1 m2 S xs ys k h → (∀ b o, b ≠ S → b ≠ zp → b ≠ tu → b ≠ p1 → b ≠ p2 → h₁.get? b = some o → h.get? b = some o) →
      h.get? S = some { cls := .type "list", dict := none, data := .seq ((as.map Value.ref).toArray) c, slots := #[] } → as.length = k → Prs xs ys S h as →
      codeAny (model P w) A (.builtin "list.extend.loop" ⟨[.ref S, .ref zp, res], []⟩) R { t with heap := h } := by
  intro d
  induction d with
  | zero =>
    intro k h c as hk hi a keep hS hl G
    have e : k = n := by omega
    apply codeAny_builtin F.entry_extend_loop
    rw [Around.under_plainId F.plain_extend_loop _]
    show wpAny _ A.in1 (pyNext (.ref zp) >>= _) _ _ _
    refine wpAny_bind (at_end (t := { t with heap := h }) (A := A.in1) hh D a ?_ fun h' hk' => ?_)
    · rcases Nat.le_total xs.size ys.size with z | z
      · left; exact Array.getElem?_eq_none (by omega)
      · right; exact Array.getElem?_eq_none (by omega)
    · refine wpAny_pure (hR h' c as (fun b o d1 d2 d3 d4 d5 z => hk' b o d2 d3 d4 d5 (keep b o d1 d2 d3 d4 d5 z)) (hk' S _ (Nat.ne_of_gt l1) (Nat.ne_of_gt l3) (Nat.ne_of_gt l4) (Nat.ne_of_gt l5) hS) (by omega) ⟨G.rise, G.above, fun j a' hj => ?_⟩)
      obtain ⟨x, y, e1, e2, e3⟩ := G.pair j a' hj
      have g := G.above a' (List.mem_of_getElem? hj)
      exact ⟨x, y, e1, e2, hk' _ _ (Nat.ne_of_gt (Nat.lt_trans l1 g)) (Nat.ne_of_gt (Nat.lt_trans l3 g)) (Nat.ne_of_gt (Nat.lt_trans l4 g)) (Nat.ne_of_gt (Nat.lt_trans l5 g)) e3⟩
  | succ d ih =>
    intro k h c as hk hi a keep hS hl G
    have kx : k < xs.size := by omega
    have ky : k < ys.size := by omega
    have sS : S < h.objs.size := Heap.lt_size hS
    apply codeAny_builtin F.entry_extend_loop
    rw [Around.under_plainId F.plain_extend_loop _]
    show wpAny _ A.in1 (pyNext (.ref zp) >>= _) _ _ _
    refine wpAny_bind (at_item (t := { t with heap := h }) (S := S) D a sS (Array.getElem?_eq_getElem kx) (Array.getElem?_eq_getElem ky) fun h' a' hp hsz hk' => ?_)
    dsimp only at hp hsz hk' ⊢
    have hS' := hk' S _ (Nat.ne_of_gt l1) (Nat.ne_of_gt l3) (Nat.ne_of_gt l4) (Nat.ne_of_gt l5) hS
    have up : ∀ b o, b ≠ S → h'.get? b = some o → (h'.update S (Obj.mapSeq (·.push (Value.ref h.objs.size)))).get? b = some o := fun b o hb z => (Heap.get?_update_other _ _ (Ne.symm hb)).trans z
    show wpAny _ A.in1 (updateSeq S (·.push (Value.ref h.objs.size)) >>= _) _ _ _
    apply wpAny_bind
    have low : ∀ b ∈ as, b ≠ zp ∧ b ≠ tu ∧ b ≠ p1 ∧ b ≠ p2 ∧ b ≠ S := fun b hb => by
      have z := G.above b hb
      exact ⟨Nat.ne_of_gt (Nat.lt_trans l1 z), Nat.ne_of_gt (Nat.lt_trans l3 z), Nat.ne_of_gt (Nat.lt_trans l4 z), Nat.ne_of_gt (Nat.lt_trans l5 z), Nat.ne_of_gt z⟩
    have e0 : ((as.map Value.ref).toArray).push (Value.ref h.objs.size) = ((as ++ [h.objs.size]).map Value.ref).toArray := by simp
    have hc := Heap.get?_update_self (Obj.mapSeq (·.push (Value.ref h.objs.size))) hS' rfl
    obtain ⟨c2, hc⟩ : ∃ c', (h'.update S (Obj.mapSeq (·.push (Value.ref h.objs.size)))).get? S = some { cls := .type "list", dict := none, data := .seq (((as ++ [h.objs.size]).map Value.ref).toArray) c', slots := #[] } := ⟨_, by rw [← e0]; exact hc⟩
    refine wpAny_updateSeq hS' rfl (wpAny_pure ⟨plainId_quiet F.plain_extend_loop _, ih (k + 1) _ c2 (as ++ [h.objs.size]) (by omega) (by omega) (a'.keep (Nat.ne_of_lt l1) (Nat.ne_of_lt l2) (Nat.ne_of_lt l3) (Nat.ne_of_lt l4) (Nat.ne_of_lt l5) (Nat.ne_of_lt l6) (Nat.ne_of_lt l7) up)
      (fun b o d1 d2 d3 d4 d5 z => up b o d1 (hk' b o d2 d3 d4 d5 (keep b o d1 d2 d3 d4 d5 z))) hc (by rw [List.length_append, hl]; rfl) ⟨?_, ?_, ?_⟩⟩) (by simp [hl]; omega) (by simp [hl]; omega)
    · refine List.pairwise_append.mpr ⟨G.rise, List.pairwise_singleton _ _, fun u hu v hv => ?_⟩
      rw [List.mem_singleton.mp hv]
      exact G.lt hu
    · intro u hu
      rcases List.mem_append.mp hu with hu | hu
      · exact G.above u hu
      · rw [List.mem_singleton.mp hu]; exact sS
    · intro j u hj
      by_cases e : j < as.length
      · rw [List.getElem?_append_left e] at hj
        obtain ⟨x, y, e1, e2, e3⟩ := G.pair j u hj
        obtain ⟨f1, f2, f3, f4, f5⟩ := low u (List.mem_of_getElem? hj)
        exact ⟨x, y, e1, e2, up u _ f5 (hk' u _ f1 f2 f3 f4 e3)⟩
      · rw [List.getElem?_append_right (by omega)] at hj
        have e0 : j - as.length = 0 := by
          rcases Nat.eq_zero_or_pos (j - as.length) with z | z
          · exact z
          · rw [List.getElem?_eq_none (by simp; omega)] at hj; cases hj
        rw [e0] at hj
        have hu : h.objs.size = u := by simpa using hj
        have ej : j = k := by omega
        rw [ej, ← hu]
        exact ⟨_, _, Array.getElem?_eq_getElem kx, Array.getElem?_eq_getElem ky, up _ _ (Nat.ne_of_gt sS) hp⟩
end
theorem zip_len : typeLookup (.type "zip") "__len__" = pure none := am_miss_of_fast (by decide +kernel)
theorem zip_hint : typeLookup (.type "zip") "__length_hint__" = pure none := am_miss_of_fast (by decide +kernel)
/-- list(zip(a, b)) -/
theorem call_listzip {S : Addr} {Q : Value → Shared → Prop} (hh : A.handled = none) (D : ZipApart zp ti tu p1 p2 m1 m2) (z0 : IsZip t.heap zp ti tu .none) (a : At zp ti tu p1 p2 m1 m2 t.heap.objs.size xs ys 0 t.heap) (hz : min xs.size ys.size ≤ sizeLine)
    (hl : zp < t.heap.objs.size ∧ ti < t.heap.objs.size ∧ tu < t.heap.objs.size ∧ p1 < t.heap.objs.size ∧ p2 < t.heap.objs.size ∧ m1 < t.heap.objs.size ∧ m2 < t.heap.objs.size)
    (q : ∀ h' c as, (∀ b o, b ≠ zp → b ≠ tu → b ≠ p1 → b ≠ p2 → t.heap.get? b = some o → h'.get? b = some o) → h'.get? t.heap.objs.size = some { cls := .type "list", dict := none, data := .seq ((as.map Value.ref).toArray) c, slots := #[] } → as.length = min xs.size ys.size →
      Prs xs ys t.heap.objs.size h' as → Q (.ref t.heap.objs.size) { t with heap := h' }) :
    wpAny (model P w) A (call (.type "list") [.ref zp]) Q E t := by
  obtain ⟨l1, l2, l3, l4, l5, l6, l7⟩ := hl
  apply callType_codes (Q₁ := fun obj s₁ => obj = .ref t.heap.objs.size ∧ s₁ = { t with heap := t.heap.push { cls := .type "list", data := .seq #[] } }) F.called_list (F.typeCall_list_1 _) F.entry_list_init (code_list_new _ ⟨rfl, rfl⟩)
  rintro obj s₁ ⟨rfl, rfl⟩
  have hS0 : (t.heap.push { cls := .type "list", data := .seq #[] }).get? t.heap.objs.size = some { cls := .type "list", data := .seq #[] } := Heap.get?_push_size _ rfl
  have pk : ∀ b o, b ≠ t.heap.objs.size → t.heap.get? b = some o → (t.heap.push { cls := .type "list", data := .seq #[] }).get? b = some o := fun b o _ z => Heap.get?_push_of_some _ z
  generalize hg : t.heap.push { cls := .type "list", data := .seq #[] } = g0 at hS0 pk
  generalize hs : t.heap.objs.size = S at *
  have a0 := a.keep (Nat.ne_of_lt l1) (Nat.ne_of_lt l2) (Nat.ne_of_lt l3) (Nat.ne_of_lt l4) (Nat.ne_of_lt l5) (Nat.ne_of_lt l6) (Nat.ne_of_lt l7) pk
  have keyL : ∀ (h : Heap) (c₁ : Nat), (∀ b o, b ≠ S → g0.get? b = some o → h.get? b = some o) → h.get? S = some { cls := .type "list", data := .seq #[] c₁ } →
      codeAny (model P w) A.in1 (.builtin "list.extend.loop" ⟨[.ref S, .ref zp, .none], []⟩) (wants (fun r s₂ => r = .none ∧ Q (.ref S) s₂) E) { t with heap := h } := fun h c₁ hk h0 => by
    refine loop (A := A.in1) (P := P) (w := w) (R := wants (fun r s₂ => r = .none ∧ Q (.ref S) s₂) E) (t := t) (h₁ := t.heap) hh D l1 l2 l3 l4 l5 l6 l7 rfl hz .none (fun h' c as k1 k2 k3 k4 => ⟨rfl, q h' c as (fun b o d2 d3 d4 d5 z => k1 b o (Nat.ne_of_lt (by rw [← hs]; exact Heap.lt_size z)) d2 d3 d4 d5 z) k2 k3 k4⟩) _ 0 h c₁ [] (Nat.sub_zero _) (Nat.zero_le _)
      (a0.keep (Nat.ne_of_lt l1) (Nat.ne_of_lt l2) (Nat.ne_of_lt l3) (Nat.ne_of_lt l4) (Nat.ne_of_lt l5) (Nat.ne_of_lt l6) (Nat.ne_of_lt l7) hk) (fun b o d1 _ _ _ _ z => hk b o d1 (pk b o d1 z)) h0 rfl ⟨List.Pairwise.nil, fun _ z => by simp at z, fun j u z => by simp at z⟩
  refine ⟨⟨_, hS0, rfl⟩, F.args_list_init_2 _ _, ?_⟩
  show wpAny _ A.in1.in1 (do let old ← Builtin.List.listItems (.ref S); Builtin.List.listUpdate (.ref S) (fun _ => #[]); letGo old.toList.reverse; Builtin.List.listExtendWith (.ref S) (.ref zp) .none) _ _ { t with heap := g0 }
  apply wpAny_bind
  unfold Builtin.List.listItems
  refine wpAny_bind (wpAny_seqItems hS0 rfl (wpAny_pure ?_))
  show wpAny _ _ (updateSeq S (fun _ => #[]) >>= fun _ => letGo (#[] : Array Value).toList.reverse >>= fun _ => Builtin.List.listExtendWith (.ref S) (.ref zp) .none) _ _ _
  refine wpAny_bind (wpAny_updateSeq hS0 rfl ?_)
  have hS1 := Heap.get?_update_self (Obj.mapSeq (fun _ => (#[] : Array Value))) hS0 rfl
  have k1 : ∀ b o, b ≠ S → g0.get? b = some o → (g0.update S (Obj.mapSeq (fun _ => (#[] : Array Value)))).get? b = some o := fun b o hb z => (Heap.get?_update_other _ _ (Ne.symm hb)).trans z
  generalize (g0.update S (Obj.mapSeq (fun _ => (#[] : Array Value)))) = g1 at hS1 k1
  refine wpAny_bind (wpAny_letGo ?_)
  have a1 := a0.keep (Nat.ne_of_lt l1) (Nat.ne_of_lt l2) (Nat.ne_of_lt l3) (Nat.ne_of_lt l4) (Nat.ne_of_lt l5) (Nat.ne_of_lt l6) (Nat.ne_of_lt l7) k1
  have zz : IsZip g1 zp ti tu .none := k1 _ _ (Nat.ne_of_lt l1) (pk _ _ (Nat.ne_of_lt l1) z0)
  have ty : Shared.TypeIs { t with heap := g1 } (.ref zp) "zip" := ⟨_, zz, rfl⟩
  unfold Builtin.List.listExtendWith
  refine wpAny_bind (wpAny_typeOf ty ?_)
  have h1 : Builtin.List.listSameRef (.ref S) (.ref zp) = false := by simp [Builtin.List.listSameRef, Nat.ne_of_gt l1]
  have h2 : (Value.type "zip" == Value.type "list") = false := by decide
  have h3 : (Value.type "zip" == Value.type "tuple") = false := by decide
  simp only [h1, h2, h3, Bool.or_false, if_false, Bool.false_eq_true]
  refine wpAny_bind (wpAny_pyIter_zip zz ?_)
  refine wpAny_bind (wpAny_holding ?_)
  unfold Builtin.List.listLengthHint
  refine wpAny_bind (wpAny_specialOf ty zip_len ?_)
  show wpAny _ _ (specialOf (Value.ref zp) (Str.ofString "__length_hint__") >>= _) _ _ _
  refine wpAny_bind (wpAny_specialOf ty zip_hint (wpAny_pure ?_))
  show wpAny _ _ (rule "list.extend.makes-room" >>= fun _ => Builtin.List.listTouch (.ref S) >>= fun _ => again (.builtin "list.extend.loop" ⟨[.ref S, .ref zp, .none], []⟩)) _ _ _
  refine wpAny_bind (wpAny_rule ?_)
  apply wpAny_bind
  show wpAny _ _ (updateSeq S (·.push .none) >>= fun _ => updateSeq S (·.pop)) _ _ _
  refine wpAny_bind (wpAny_updateSeq hS1 rfl ?_)
  have hS2 := Heap.get?_update_self (Obj.mapSeq (·.push Value.none)) hS1 rfl
  refine wpAny_updateSeq (hz := by seq_fits) hS2 rfl ?_
  have hS3 := Heap.get?_update_self (Obj.mapSeq (·.pop)) hS2 rfl
  refine wpAny_pure ⟨plainId_quiet F.plain_extend_loop _, keyL _ _ (fun b o hb z => ?_) hS3⟩
  exact (Heap.get?_update_other _ _ (Ne.symm hb)).trans ((Heap.get?_update_other _ _ (Ne.symm hb)).trans (k1 b o hb z))
end
end EVZ
end

section
set_option Elab.async false
set_option linter.all false
set_option maxRecDepth 100000
set_option maxHeartbeats 4000000
/-! EVY: list(zip(a, b)) of two tuples, in the small language -/
namespace EV
open PySem PySem.Spec PyProof.Rows L2
/-- pairs laid at their places -/
def putP : Hp → List Addr → List (V × V) → Hp
  | H, a :: as, p :: ps => putP (upd H a (.tup [p.1, p.2])) as ps
  | H, _, _ => H
theorem putP_off {b : Addr} : ∀ (as : List Addr) (ps : List (V × V)) (H : Hp), b ∉ as → putP H as ps b = H b
  | [], _, _, _ => by rw [putP.eq_def]
  | _ :: _, [], _, _ => by rw [putP.eq_def]
  | a :: as, p :: ps, H, h => by
    have h1 : b ≠ a := fun e => h (by rw [e]; exact List.mem_cons_self)
    show putP (upd H a (.tup [p.1, p.2])) as ps b = _
    rw [putP_off as ps _ fun z => h (List.mem_cons_of_mem _ z), upd_ne h1]
theorem putP_at : ∀ (as : List Addr) (ps : List (V × V)) (H : Hp), as.Nodup → ∀ (j : Nat) (t : Addr) (p : V × V), as[j]? = some t → ps[j]? = some p → putP H as ps t = some (.tup [p.1, p.2])
  | [], _, _, _, j, t, p, h1, _ => by simp at h1
  | _ :: _, [], _, _, j, t, p, _, h2 => by simp at h2
  | a :: as, q :: ps, H, nd, 0, t, p, h1, h2 => by
    cases h1
    cases h2
    show putP (upd H a (.tup [q.1, q.2])) as ps a = _
    rw [putP_off as ps _ (List.nodup_cons.mp nd).1, upd_same]
  | a :: as, q :: ps, H, nd, j + 1, t, p, h1, h2 => putP_at as ps _ (List.nodup_cons.mp nd).2 j t p h1 h2
theorem gok_putP {c : Glb} : ∀ (as : List Addr) (ps : List (V × V)) (g : G), GOk c g → as.Nodup → (∀ t ∈ as, g.H t = none) → GOk c { g with H := putP g.H as ps } ∧ Le g { g with H := putP g.H as ps }
  | [], ps, g, ok, _, _ => by rw [putP.eq_def]; exact ⟨ok, Le.refl g⟩
  | _ :: _, [], g, ok, _, _ => by rw [putP.eq_def]; exact ⟨ok, Le.refl g⟩
  | a :: as, p :: ps, g, ok, nd, n => by
    have na := n a List.mem_cons_self
    obtain ⟨nd1, nd2⟩ := List.nodup_cons.mp nd
    obtain ⟨o2, l2⟩ := gok_putP as ps { g with H := upd g.H a (.tup [p.1, p.2]) } (gok_laid ok na) nd2 fun t ht => by
      show upd g.H a (.tup [p.1, p.2]) t = none
      rw [upd_ne (fun e : t = a => nd1 (by rw [← e]; exact ht))]
      exact n t (List.mem_cons_of_mem _ ht)
    exact ⟨o2, (le_laid ok na).trans l2⟩
theorem reps_zip {K : PySem.W.Frag} {L : Addr → Prop} {H : Hp} : ∀ (dx dy : List D) (vx vy : List V) (as : List Addr), Reps K L H dx vx → Reps K L H dy vy → as.length = (vx.zip vy).length →
    (∀ (j : Nat) (t : Addr) (p : V × V), as[j]? = some t → (vx.zip vy)[j]? = some p → H t = some (.tup [p.1, p.2])) → Reps K L H (zipD dx dy) (as.map V.ref)
  | [], dy, _, vy, as, .nil, _, hl, _ => by
    cases as with
    | nil => simp only [zipD]; exact .nil
    | cons => simp at hl
  | _ :: _, [], _, _, as, .cons _ _, .nil, hl, _ => by
    cases as with
    | nil => simp only [zipD]; exact .nil
    | cons => simp at hl
  | d :: dx, e :: dy, v :: vx, w :: vy, as, .cons r1 t1, .cons r2 t2, hl, h => by
    cases as with
    | nil => simp at hl
    | cons a as =>
      simp only [zipD]
      refine .cons (.tup (.inl (h 0 a (v, w) rfl rfl)) (by show 2 ≤ 16777216; decide) (.cons r1 (.cons r2 .nil))) (reps_zip dx dy vx vy as t1 t2 (by simpa using hl) fun j t p h1 h2 => h (j + 1) t p h1 h2)
theorem vals_refs : ∀ as : List Addr, Vals (as.map V.ref) (as.map Value.ref)
  | [] => .nil
  | _ :: as => .cons rfl (vals_refs as)
theorem vals_ix : ∀ {xs : List V} {us : List Value}, Vals xs us → ∀ {j : Nat} {u : Value}, us[j]? = some u → ∃ x, xs[j]? = some x ∧ RelV x u
  | _, _, .nil, j, u, h => by simp at h
  | _, _, .cons r _, 0, u, h => by cases h; exact ⟨_, rfl, r⟩
  | _, _, .cons _ t, j + 1, u, h => vals_ix t h
theorem lz_laid {X : Cx} {pins : List (Addr × Obj)} {σ : L2.St} {H : Hp} {s : Shared} {h' : PySem.Heap} {xs ys : List V} {us ws : List Value} {as : List Addr} {S : Addr} {c : Nat} (I : Inv X pins σ H s) (rx : Vals xs us) (ry : Vals ys ws) (hlen : xs.length ≤ sizeLine)
    (hk : ∀ b o, s.heap.get? b = some o → h'.get? b = some o) (hS : s.heap.objs.size ≤ S) (G : EVZ.Prs us.toArray ws.toArray S h' as) (hl : as.length = min us.length ws.length)
    (gS : h'.get? S = some { cls := .type "list", dict := none, data := .seq ((as.map Value.ref).toArray) c, slots := #[] }) :
    as.Nodup ∧ S ∉ as ∧ as.length = (xs.zip ys).length ∧ (∀ t ∈ as, H t = none) ∧ H S = none ∧ Inv X pins σ (upd (putP H as (xs.zip ys)) S (.lst (as.map V.ref))) { s with heap := h' } := by
  have l1 := rx.length
  have l2 := ry.length
  have lz : as.length = (xs.zip ys).length := by rw [List.length_zip, hl, l1, l2]
  have nd : as.Nodup := List.Pairwise.imp (fun {a b} (z : a < b) => Nat.ne_of_lt z) G.rise
  have nS : S ∉ as := fun z => Nat.lt_irrefl _ (G.above S z)
  have up : ∀ b ∈ as, s.heap.objs.size ≤ b := fun b z => Nat.le_of_lt (Nat.lt_of_le_of_lt hS (G.above b z))
  have newA : ∀ t ∈ as, H t = none := fun t z => I.hok.fresh (up t z)
  have newS : H S = none := I.hok.fresh hS
  have off : ∀ b, b ∉ as → b ≠ S → upd (putP H as (xs.zip ys)) S (.lst (as.map V.ref)) b = H b := fun b n1 n2 => by rw [upd_ne n2, putP_off as _ _ n1]
  have low : ∀ b o, s.heap.get? b = some o → b ∉ as ∧ b ≠ S := fun b o z => by
    have lt := Heap.lt_size z
    exact ⟨fun m => Nat.lt_irrefl _ (Nat.lt_of_lt_of_le lt (up b m)), fun e => Nat.lt_irrefl _ (Nat.lt_of_lt_of_le (e ▸ lt) hS)⟩
  have kp : ∀ b u, H b = some u → upd (putP H as (xs.zip ys)) S (.lst (as.map V.ref)) b = some u := fun b u z => by
    rw [off b (fun m => by rw [newA b m] at z; cases z) (fun e => by rw [e, newS] at z; cases z)]
    exact z
  refine ⟨nd, nS, lz, newA, newS, ?_⟩
  have un : Un (frs X.stack) [] H (upd (putP H as (xs.zip ys)) S (.lst (as.map V.ref))) s.heap h' := by
    constructor
    · intro b o z _ _ _; exact hk b o z
    · intro b o z _ _ _; exact ⟨o.slots, hk b o z⟩
    · intro b o z n _
      obtain ⟨n1, n2⟩ := low b o z
      rw [off b n1 n2]; exact n
    · intro b o z _; exact ⟨o, hk b o z⟩
    · intro b _ z; exact kp b _ z
    · intro b _ _ z; exact kp b _ z
    · intro b ps z; exact ⟨#[], by rw [kp b _ z]; simp⟩
  refine I.call' (ch := []) rfl un (fun b u z => ?_) I.bare fun b m => by simp at m
  by_cases hb : b = S
  · rw [hb] at z ⊢
    rw [upd_same] at z
    cases z
    exact ⟨by rw [List.length_map]; omega, as.map Value.ref, c, vals_refs as, gS⟩
  · by_cases hm : b ∈ as
    · obtain ⟨j, hj⟩ := List.mem_iff_getElem?.mp hm
      have hjl : j < (xs.zip ys).length := by rw [← lz]; exact (List.getElem?_eq_some_iff.mp hj).1
      have hp := putP_at as (xs.zip ys) H nd j b _ hj (List.getElem?_eq_getElem hjl)
      rw [upd_ne hb, hp] at z
      cases z
      obtain ⟨x, y, e1, e2, e3⟩ := G.pair j b hj
      obtain ⟨vx, f1, r1⟩ := vals_ix rx (show us[j]? = some x by simpa using e1)
      obtain ⟨vy, f2, r2⟩ := vals_ix ry (show ws[j]? = some y by simpa using e2)
      have ez : (xs.zip ys)[j] = (vx, vy) := by
        have q : (xs.zip ys)[j]? = some (vx, vy) := by rw [List.getElem?_zip_eq_some]; exact ⟨f1, f2⟩
        rw [List.getElem?_eq_getElem hjl] at q
        exact Option.some.inj q
      rw [ez]
      exact ⟨by show 2 ≤ sizeLine; decide, [x, y], .cons r1 (.cons r2 .nil), ⟨_, e3, rfl, _, rfl⟩⟩
    · rw [off b hm hb] at z
      exact (I.hok b u z).stay (fun d v _ y => hk d v y) (fun d y => kp d _ y) fun d ys y => kp d _ y
/-- list(zip(a, b)) -/
def tLz (K : PySem.W.Frag) (ta : TA) : TE := fun σ H Q => ta σ H fun vs H1 => ∃ (a b : Addr) (xs ys : List V), vs = [.ref a, .ref b] ∧ SqT K H1 a xs ∧ SqT K H1 b ys ∧ ∀ (S : Addr) (as : List Addr), as.Nodup → S ∉ as → as.length = (xs.zip ys).length → (∀ t ∈ as, H1 t = none) → H1 S = none →
  Q (.ref S) (upd (putP H1 as (xs.zip ys)) S (.lst (as.map V.ref)))
theorem pe_lz {X : Cx} {a b : Expr} {ta : TA} {p p2 pos q : Pos} (hc : X.calm = true) (hg : Gl X "list") (hm : X.mg "list" = none) (hg2 : Gl X "zip") (hm2 : X.mg "zip" = none) (ha : PA X [a, b] ta)
    (hs : starEach [.Call (.Name "zip" p2) [a, b] [] q] X.env = (false, eval (.Call (.Name "zip" p2) [a, b] [] q) X.env) :: starEach [] X.env)
    (hs2 : starEach [a, b] X.env = (false, eval a X.env) :: starEach [b] X.env) (hpl : (backTo q (starEach [b] X.env)).any (·.1) = false) :
    PE X (.Call (.Name "list" p) [.Call (.Name "zip" p2) [a, b] [] q] [] pos) (tLz X.K ta) := by
  constructor
  intro pins s σ H Q I hq
  refine wpAny_Call_Name_kw (ld_blt I hg hm (show bootBuiltins "list" = some (.type "list") by decide +kernel) ?_)
  refine PyProof.Rows.callWith_type1 ?_ hs rfl
  rw [hs]
  show wpAny _ _ (spliced ((false, eval (.Call (.Name "zip" p2) [a, b] [] q) X.env) :: backTo pos (starEach [] X.env))) _ _ s
  apply Calls.spliced_cons
  refine Call_ (ld_blt I hg2 hm2 PyProof.Rows.boot_zip (PyProof.Rows.callWith_type1 (thn (ha.run q pins s σ H _ I hq) fun us s1 ⟨vs, H1, I1, r1, q1⟩ => ?_) hs2 hpl))
  obtain ⟨l1, l2, xs, ys, rfl, t1, t2, q1⟩ := q1
  cases r1 with
  | cons ra rr =>
    cases rr with
    | cons rb rr =>
      cases rr
      cases ra
      cases rb
      obtain ⟨us, rx, g1, z1⟩ := I1.tuple t1
      obtain ⟨ws, ry, g2, z2⟩ := I1.tuple t2
      obtain ⟨o1, e1, _⟩ := id g1
      obtain ⟨o2, e2, _⟩ := id g2
      have b1 := Heap.lt_size e1
      have b2 := Heap.lt_size e2
      refine RZ.call_zipT (show s1.heap.IsTuple l1 us.toArray from g1) (show s1.heap.IsTuple l2 ws.toArray from g2) fun h' hz hI hO i1 i2 hsz hk => ?_
      apply Calls.spliced_nil
      have D := PySem.W.ktu_apart s1.heap.objs.size l1 l2 b1 b2
      refine EVZ.call_listzip (S := 0) (t := { s1 with heap := h' }) (xs := us.toArray) (ys := ws.toArray) (I1.ok.hd hc) D hz ⟨i1, i2, ?_, ?_, hI, .inl ⟨hz, _, _, hO⟩⟩ ?_ ?_ fun h2 c as k1 k2 k3 k4 => ?_
      · obtain ⟨o, e, f⟩ := g1; exact ⟨o, hk _ _ e, f⟩
      · obtain ⟨o, e, f⟩ := g2; exact ⟨o, hk _ _ e, f⟩
      · have := rx.length
        simp only [List.size_toArray]
        omega
      · show _ < h'.objs.size ∧ _
        rw [hsz]
        refine ⟨?_, ?_, ?_, ?_, ?_, ?_, ?_⟩ <;> first | exact Nat.lt_add_right 5 b1 | exact Nat.lt_add_right 5 b2 | exact Nat.add_lt_add_left (by decide) _ | exact Nat.lt_add_of_pos_right (by decide)
      · have old : ∀ b o, s1.heap.get? b = some o → h2.get? b = some o := fun b o e => by
          have lt := Heap.lt_size e
          refine k1 b o ?_ ?_ ?_ ?_ (hk b o e)
          · exact Nat.ne_of_lt (Nat.lt_add_right 4 lt)
          · exact Nat.ne_of_lt (Nat.lt_add_right 3 lt)
          · exact Nat.ne_of_lt lt
          · exact Nat.ne_of_lt (Nat.lt_add_right 1 lt)
        obtain ⟨n1, n2, n3, n4, n5, J⟩ := lz_laid I1 rx ry z1 old (by show _ ≤ h'.objs.size; rw [hsz]; exact Nat.le_add_right _ _) k4 (by simpa using k3) k2
        exact ⟨.ref _, _, J, rfl, q1 _ as n1 n2 n3 n4 n5⟩
section
variable {c : Glb} {U : Env} {W : WX} {X : Cx} {a b : Expr} {la lb : LE} {p p2 pos q : Pos}
theorem se_lzip (hK : X.K = c.K) (hc : X.calm = true) (hg : Gl X "list") (hm : X.mg "list" = none) (hg2 : Gl X "zip") (hm2 : X.mg "zip" = none) (ha : PE X a (tEv c U W la)) (hb : PE X b (tEv c U W lb)) (hp : plainX a = true) (hp2 : plainX b = true) :
    PE X (.Call (.Name "list" p) [.Call (.Name "zip" p2) [a, b] [] q] [] pos) (tEvN c U W (.lzip la lb)) := PE.imp (pe_lz hc hg hm hg2 hm2 (pa_cons ha (pa_cons hb pa_nil (star_cons hp2)) (star_cons hp)) (star_cons rfl) (star_cons hp) (star_any (by rw [List.all_cons, hp2]; rfl) _)) fun σ H Q => by
  rintro ⟨g, loc, rfl, ok, lo, out⟩
  refine ⟨g, loc, rfl, ok, lo, (Out.bind out).imp fun v g1 ⟨le1, ok1, out1⟩ w rw1 => ?_⟩
  refine ⟨g1, loc, rfl, ok1, lo.le ok le1, (Out.bind out1).imp fun v2 g2 ⟨le2, ok2, out2⟩ w2 rw2 => ?_⟩
  have rw1' := rw1.le ok1 le2

  split at out2
  · cases rw1' with
    | d r1 =>
      cases rw2 with
      | d r2 =>
        cases r1 with
        | tup t1 m1 s1 =>
          cases r2 with
          | tup t2 m2 s2 =>
            show ∃ _, _
            rw [hK]
            refine ⟨_, _, _, _, rfl, t1.sq, t2.sq, fun S as nd nS hl nA hS => ?_⟩
            rename_i vx _ vy
            obtain ⟨ok3, le3⟩ := gok_putP as (vx.zip vy) g2 ok2 nd nA
            obtain ⟨z, ez, on⟩ := out2 g2.ρ _ ok3 le3
            cases ez
            refine on S _ ?_ ?_ ?_
            · show putP g2.H as _ S = none
              rw [putP_off as _ _ nS]
              exact hS
            · rw [zipD_len]
              omega
            · exact reps_zip _ _ vx vy as (s1.le ok2 le3) (s2.le ok2 le3) hl fun j t p h1 h2 => putP_at as _ _ nd j t p h1 h2
  · exact out2.elim
end
end EV
end

section
set_option Elab.async false
set_option linter.all false
set_option maxRecDepth 100000
set_option maxHeartbeats 4000000
/-! EV15: does an expression of the text read as one of the small language? -/
namespace EV
open PySem PySem.Spec PyProof.Rows L2
structure Sg where
  fns : List (String × Nat)
  blt : List String
  gv : List (String × D)
  cls : List String
  rz : List Nat
  hot : Bool
  mn : List (Str × NameKind)
  lmk : Nat → LamI → Bool
mutual
def sameD : D → D → Bool
  | .non, .non => true
  | .bl a, .bl b => a == b
  | .int i, .int j => decide (i = j)
  | .str x, .str y => decide (x = y)
  | .tup xs, .tup ys => sameDs xs ys
  | .lst xs, .lst ys => sameDs xs ys
  | _, _ => false
def sameDs : List D → List D → Bool
  | [], [] => true
  | x :: xs, y :: ys => sameD x y && sameDs xs ys
  | _, _ => false
end
mutual
theorem sameD_eq : ∀ (x y : D), sameD x y = true → x = y
  | .non, y, h => by cases y <;> first | rfl | cases h
  | .bl a, y, h => by
    cases y with
    | bl b => simp only [sameD, beq_iff_eq] at h; rw [h]
    | _ => cases h
  | .int a, y, h => by
    cases y with
    | int b => simp only [sameD, decide_eq_true_eq] at h; rw [h]
    | _ => cases h
  | .str a, y, h => by
    cases y with
    | str b => simp only [sameD, decide_eq_true_eq] at h; rw [h]
    | _ => cases h
  | .tup a, y, h => by
    cases y with
    | tup b => simp only [sameD] at h; rw [sameDs_eq a b h]
    | _ => cases h
  | .lst a, y, h => by
    cases y with
    | lst b => simp only [sameD] at h; rw [sameDs_eq a b h]
    | _ => cases h
theorem sameDs_eq : ∀ (x y : List D), sameDs x y = true → x = y
  | [], y, h => by cases y <;> first | rfl | cases h
  | x :: xs, y, h => by
    cases y with
    | nil => cases h
    | cons y ys =>
      simp only [sameDs, Bool.and_eq_true] at h
      rw [sameD_eq x y h.1, sameDs_eq xs ys h.2]
end
def visB (sc : Scope) (x : Str) : Bool :=
  match sc.names.lookup x with
  | some .local => true
  | some .cell => true
  | some .free => true
  | _ => false
def locB (sc : Scope) (x : Str) : Bool :=
  match sc.names.lookup x with
  | some .local => true
  | some .cell => true
  | _ => false
def lclB (sc : Scope) (x : Str) : Bool :=
  match sc.names.lookup x with
  | some .local => true
  | _ => false
def glB (sc : Scope) (x : Str) : Bool :=
  match sc.names.lookup x with
  | some .globalImplicit => true
  | _ => false
def dbg (x : Str) : Bool := x == ("__debug__" : Str)
def cdc (x : Str) : Bool := x == ("__classdict__" : Str)
def nmB (N : List Str) (sc : Scope) (i : Nat) (x : Str) : Bool := decide (N[i]? = some x) && visB sc x && !dbg x && !cdc x
def gvB (Γ : Sg) (x : String) : Vl → Bool
  | .d d => Γ.gv.any fun p => p.1 == x && sameD p.2 d
  | .fnv f => (Γ.fns[f]?).any fun p => p.1 == x
  | _ => false
def fnB (Γ : Sg) (f : Nat) (x : String) (n : Nat) : Bool := (Γ.fns[f]?).any fun p => p.1 == x && p.2 == n
def okLit : D → Const → Bool
  | .non, .none => true
  | .bl a, .bool b => a == b
  | .int i, .int j => decide (i = j)
  | .str s, .str x => decide (x = SS s) && s.all fun c => decide (c < 0x110000)
  | _, _ => false
def tstX : Expr → Bool
  | .Name .. => true
  | .Call .. => true
  | .Subscript .. => true
  | _ => false
def ownN (N : List Str) (own : List Nat) : List (Str × Nat) := own.filterMap fun i => (N[i]?).map fun x => (x, i)
def stB (ws sc : Scope) (x : Str) : Bool := locB sc x && (lclB sc x || match ws.names.lookup x with
  | some .cell => true
  | _ => false)
def okG (N : List Str) (hot : Bool) (ws : Scope) : LT → Scope → Expr → Bool
  | .nm i, sc, e => match e with
    | .Name x _ => decide (N[i]? = some x) && stB ws sc x
    | _ => false
  | .tp a b, sc, e => match e with
    | .Tuple [ea, eb] _ _ => !hot && plainT ea && plainT eb && okG N hot ws a sc ea && okG N hot ws b sc eb
    | _ => false
  | .tp3 a b c, sc, e => match e with
    | .Tuple [ea, eb, ec] _ _ => !hot && plainT ea && plainT eb && plainT ec && okG N hot ws a sc ea && okG N hot ws b sc eb && okG N hot ws c sc ec
    | _ => false
def isNil : LEs → Bool
  | .nil => true
  | _ => false
/-- a lambda that stands as an argument -/
def dflB (a : Arguments) : Bool :=
  a.kw_defaults.isEmpty && match a.defaults with
  | [] => true
  | [.Constant (.int _) _ _] => true
  | _ => false
def namesAt (N : List Str) (is : List Nat) : List Str := is.filterMap fun i => N[i]?
def lamB (Γ : Sg) (N : List Str) (fl : Nat) (caps : List Nat) (sc : Scope) : Expr → Bool
  | .Lambda params body scope _ => !Γ.mn.isEmpty && decide (sc.names = Γ.mn) && decide ((namesAt N caps).length = caps.length) && dflB params && Γ.lmk fl ⟨params, body, scope, namesAt N caps, params.defaults.length⟩ &&
      scope.names.all (fun y => !decide (y.2 = .free) || (namesAt N caps).contains y.1) && (namesAt N caps).all (fun y => decide (scope.names.lookup y = some .free) && decide (sc.names.lookup y = some .cell))
  | _ => false
def someLam : LEs → Bool
  | .cons (.lam _ _) _ => true
  | .cons _ es => someLam es
  | .nil => false
mutual
def ok (Γ : Sg) (N : List Str) : LE → Nat → Scope → Expr → Bool
  | .lit d, m, _, e => m == 0 && match e with
    | .Constant k _ _ => okLit d k
    | _ => false
  | .var i, m, sc, e => (m == 0 || m == 2) && match e with
    | .Name x _ => nmB N sc i x
    | _ => false
  | .glob x v, m, sc, e => m == 0 && match e with
    | .Name y _ => y == (x : Str) && glB sc y && !dbg y && gvB Γ x v
    | _ => false
  | .op o a b, m, sc, e => (m == 0 || m == 1) && match e with
    | .BinOp ea op eb _ => decide (op = opOf o) && ok Γ N a 0 sc ea && ok Γ N b 0 sc eb
    | _ => false
  | .neg a, m, sc, e => m == 0 && match e with
    | .UnaryOp u ea _ => decide (u = .USub) && ok Γ N a 0 sc ea
    | _ => false
  | .not a, m, sc, e => (m == 0 || m == 2) && match e with
    | .UnaryOp u ea _ => decide (u = .Not) && ok Γ N a m sc ea
    | _ => false
  | .and a b, m, sc, e => (m == 0 || m == 2) && match e with
    | .BoolOp u (ea :: eb :: []) _ => decide (u = .And) && ok Γ N a m sc ea && ok Γ N b m sc eb
    | .BoolOp u (ea :: eb :: ec :: r) p => decide (u = .And) && ok Γ N a m sc ea && ok Γ N b m sc (.BoolOp u (eb :: ec :: r) p)
    | _ => false
  | .or a b, m, sc, e => (m == 0 || m == 2) && match e with
    | .BoolOp u (ea :: eb :: []) _ => decide (u = .Or) && ok Γ N a m sc ea && ok Γ N b m sc eb
    | .BoolOp u (ea :: eb :: ec :: r) p => decide (u = .Or) && ok Γ N a m sc ea && ok Γ N b m sc (.BoolOp u (eb :: ec :: r) p)
    | _ => false
  | .cmp o a b, m, sc, e => (m == 0 || m == 2) && match e with
    | .Compare ea [op] [eb] _ => decide (op = cmOf o) && plainX eb && ok Γ N a 0 sc ea && ok Γ N b 0 sc eb
    | _ => false
  | .chain o p a b c, m, sc, e => (m == 0 || m == 2) && match e with
    | .Compare ea [op, op2] [eb, ec] _ => decide (op = cmOf o) && decide (op2 = cmOf p) && plainX ec && ok Γ N a 0 sc ea && ok Γ N b 0 sc eb && ok Γ N c 0 sc ec
    | _ => false
  | .ife c a b, m, sc, e => m == 0 && match e with
    | .IfExp ec ea eb _ => ok Γ N c 2 sc ec && ok Γ N a 0 sc ea && ok Γ N b 0 sc eb
    | _ => false
  | .tup es, m, sc, e => (m == 0 || m == 1) && match e with
    | .Tuple l _ _ => decide (lenEs es ≤ 100000) && okEs Γ N es sc l
    | _ => false
  | .lst es, m, sc, e => (m == 0 || m == 1) && match e with
    | .List l _ => decide (lenEs es ≤ 100000) && okEs Γ N es sc l
    | _ => false
  | .thaw e', m, sc, e => m == 0 && ok Γ N e' 1 sc e
  | .frz e', m, sc, e => m == 0 && ok Γ N e' 0 sc e
  | .idx a i, m, sc, e => (m == 0 || m == 2) && match e with
    | .Subscript ea ei _ => plainX ei && ok Γ N a 0 sc ea && ok Γ N i 0 sc ei
    | _ => false
  | .slc a lo hi, m, sc, e => (m == 0 || m == 1) && match e with
    | .Subscript ea (.Slice l h none _) _ => ok Γ N a 0 sc ea && okO Γ N lo sc l && okO Γ N hi sc h
    | _ => false
  | .rev a, m, sc, e => (m == 0 || m == 1) && match e with
    | .Subscript ea (.Slice none none (some (.UnaryOp u (.Constant (.int k) _ _) _)) _) _ => decide (u = .USub) && decide (k = 1) && ok Γ N a 0 sc ea
    | _ => false
  | .call f x es, m, sc, e => (m == 0 || m == 2) && match e with
    | .Call (.Name y _) (a :: as) [] _ => !Γ.hot && y == (x : Str) && glB sc y && !dbg y && fnB Γ f x (lenEs es) && (a :: as).all plainX && (if someLam es then okAs Γ N es sc (a :: as) else okEs Γ N es sc (a :: as))
    | _ => false
  | .callv i es, m, sc, e => (m == 0 || m == 2) && match e with
    | .Call (.Name y _) (a :: as) [] _ => !Γ.hot && nmB N sc i y && (a :: as).all plainX && okEs Γ N es sc (a :: as)
    | .Call (.Name y _) [] [] _ => !Γ.hot && nmB N sc i y && isNil es && Γ.fns.all (fun p => p.2 != 0)
    | _ => false
  | .bi b es, m, sc, e => (m == 0 || m == 1 || m == 2) && match e with
    | .Call (.Name y _) (a :: as) [] _ => !Γ.hot && y == (biName b : Str) && glB sc y && Γ.blt.contains (biName b) && (a :: as).all plainX && okEs Γ N es sc (a :: as)
    | _ => false
  | .mt mm o es, m, sc, e => (m == 0 || m == 2) && match e with
    | .Call (.Attribute eo nm apos) as [] cpos => nm == (mtName mm : Str) && baseX eo && as.all plainX && decide (as.length < 20) && apos.endLine == cpos.line && ok Γ N o 0 sc eo && okEs Γ N es sc as
    | _ => false
  | .isi e' t, m, sc, e => (m == 0 || m == 2) && match e with
    | .Call (.Name y _) [ea, .Name z _] [] _ => y == ("isinstance" : Str) && z == (tyName t : Str) && glB sc y && glB sc z && Γ.blt.contains "isinstance" && Γ.blt.contains (tyName t) && plainX ea && ok Γ N e' 0 sc ea
    | _ => false
  | .isx i x ci, m, sc, e => (m == 0 || m == 2) && match e with
    | .Call (.Name y _) [.Name z _, .Name u _] [] _ => Γ.hot && y == ("isinstance" : Str) && u == (x : Str) && nmB N sc i z && glB sc y && glB sc u && !dbg u && Γ.blt.contains "isinstance" && decide (Γ.cls[ci]? = some x)
    | _ => false
  | .comp elt g t c own, m, sc, e => (m == 0 || m == 1) && match e with
    | .ListComp eelt [⟨tg, iter, ifs, k⟩] scope _ => !Γ.hot && decide (k = 0) && plainX iter && (Γ.mn.isEmpty || !decide ((relS scope sc).names = Γ.mn)) && blkC N sc scope (ownN N own) && decide ((ownN N own).map Prod.snd = own) && (slotsT t).all (fun i => own.contains i) &&
        okI Γ N g sc tg iter && okG N Γ.hot scope t (relS scope sc) tg && okC Γ N c (relS scope sc) ifs && ok Γ N elt 0 (relS scope sc) eelt
    | _ => false
  | .dct es, m, sc, e => m == 0 && match e with
    | .Dict ks vs _ => decide (ks.length = vs.length) && decide (ks.length ≤ 15) && decide (lenEs es ≤ 30) && okPs Γ N es sc ks vs
    | _ => false
  | .lzip a b, m, sc, e => (m == 0 || m == 1) && match e with
    | .Call (.Name x _) [.Call (.Name y _) [ea, eb] [] _] [] _ => !Γ.hot && x == ("list" : Str) && y == ("zip" : Str) && glB sc x && glB sc y && Γ.blt.contains "list" && Γ.blt.contains "zip" && plainX ea && plainX eb && ok Γ N a 0 sc ea && ok Γ N b 0 sc eb
    | _ => false
  | .dcomp _ _ _ _ _, _, _, _ => false
  | .lam _ _, _, _, _ => false
def okEs (Γ : Sg) (N : List Str) : LEs → Scope → List Expr → Bool
  | .nil, _, es => es.isEmpty
  | .cons l ls, sc, es => match es with
    | e :: es => plainX e && ok Γ N l 0 sc e && okEs Γ N ls sc es
    | [] => false
/-- arguments with lambdas -/
def okAs (Γ : Sg) (N : List Str) : LEs → Scope → List Expr → Bool
  | .nil, _, es => es.isEmpty
  | .cons (.lam fl caps) ls, sc, es => match es with
    | e :: es => plainX e && lamB Γ N fl caps sc e && okAs Γ N ls sc es
    | [] => false
  | .cons l ls, sc, es => match es with
    | e :: es => plainX e && ok Γ N l 0 sc e && okAs Γ N ls sc es
    | [] => false
def okPs (Γ : Sg) (N : List Str) : LEs → Scope → List (Option Expr) → List Expr → Bool
  | .nil, _, ks, vs => ks.isEmpty && vs.isEmpty
  | .cons l (.cons l2 ls), sc, ks, vs => match ks, vs with
    | some k :: ks, v :: vs => ok Γ N l 0 sc k && ok Γ N l2 0 sc v && okPs Γ N ls sc ks vs
    | _, _ => false
  | .cons _ .nil, _, _, _ => false
def okO (Γ : Sg) (N : List Str) : LO → Scope → Option Expr → Bool
  | .no, _, e => e.isNone
  | .yes l, sc, e => match e with
    | some e => ok Γ N l 0 sc e
    | none => false
def okC (Γ : Sg) (N : List Str) : LO → Scope → List Expr → Bool
  | .no, _, es => es.isEmpty
  | .yes l, sc, es => match es with
    | [e] => ok Γ N l 2 sc e
    | _ => false
def okI (Γ : Sg) (N : List Str) : LI → Scope → Expr → Expr → Bool
  | .val l, sc, _, e => ok Γ N l 0 sc e
  | .rng1 a, sc, _, e => match e with
    | .Call (.Name y _) [ea] [] _ => y == ("range" : Str) && glB sc y && Γ.blt.contains "range" && plainX ea && ok Γ N a 0 sc ea
    | _ => false
  | .rng2 a b, sc, _, e => match e with
    | .Call (.Name y _) [ea, eb] [] _ => y == ("range" : Str) && glB sc y && Γ.blt.contains "range" && plainX ea && plainX eb && ok Γ N a 0 sc ea && ok Γ N b 0 sc eb
    | _ => false
  | .zip a b, sc, tg, e => match tg, e with
    | .Tuple _ _ _, .Call (.Name y _) [ea, eb] [] _ => y == ("zip" : Str) && glB sc y && Γ.blt.contains "zip" && plainX ea && plainX eb && ok Γ N a 0 sc ea && ok Γ N b 0 sc eb
    | _, _ => false
  | .enm a, sc, tg, e => match tg, e with
    | .Tuple _ _ _, .Call (.Name y _) [ea] [] _ => y == ("enumerate" : Str) && glB sc y && Γ.blt.contains "enumerate" && plainX ea && ok Γ N a 0 sc ea
    | _, _ => false
end
theorem bnot {b : Bool} (h : (!b) = true) : b = false := by simpa using h
/-! ### contexts -/
/-- what the making of a lambda wants of the maker -/
def MkAt (c : Glb) (X : Cx) : Prop := ∃ (cc P : Addr), X.env.code = .ref cc ∧ LamX.TabB X.base X.mg cc P ∧ (P, X.env.qual ++ "<lambda>") ∈ c.tabs ∧ ∀ p ∈ c.tabs, p.1 = P → p.2 = X.env.qual ++ "<lambda>"
structure XG (c : Glb) (P : Program) (w : World) (mg : Str → Option Value) (base : PySem.Heap) (k : Nat) (N : List Str) (Γ : Sg) (ws sc : Scope) (X : Cx) : Prop where
  prog : X.prog = P
  w : X.w = w
  K : X.K = c.K
  mg : X.mg = mg
  base : X.base = base
  eN : X.N = N
  nd : N.Nodup
  eS : X.env.scope = sc
  calm : Γ.hot = false → X.calm = true
  fn : ∀ x, ws.names.lookup x = some .cell → X.fn x = true
  room : Γ.hot = false → RoomG k X.A
  hu : X.A.units + 200 < cLine
  gd : X.A.guards = some []
  cold : Γ.hot = false → c.ex = none
  isE : ∀ a j, c.ex = some (a, j) → ∃ D, c.ca j = some (.ref D) ∧ CallR X (.builtin "isinstance") (rIsE X.K D a)
  mkr : Γ.mn ≠ [] → sc.names = Γ.mn → MkAt c X ∧ ∀ y a, X.env.cells.lookup y = some a → X.fn y = true
/-- what a closure's call does -/
def LamOk (c : Glb) (P : Program) (w : World) (mg : Str → Option Value) (base : PySem.Heap) (k : Nat) (cf : Nat → List Vl → Sto → R Vl) : Prop :=
  ∀ (fl : Nat) (I : LamI) (g : G) (cs ds : List Vl) (f c' : Addr) (qual : Str) (cells : List (Str × Addr)) (pm ctv : Value) (ts : List (Addr × Obj)) (us xs : List Value) (ws vs : List V) (A : Around) (outer : List PySem.Env) (s : Shared) (Q : VK) (E : XK),
    GOk c g → CloAt c g fl f c' qual I cells pm ctv ts us ws → RepBs c g cs ws → RepBs c g ds vs → Vals vs xs → RoomG k A → Env0 P w c.K mg base A outer s g.H →
    Out c g (fun cls d _ H' => E cls d H') [] (cf fl (cs ++ ds) g.S) (fun v g' => ∀ w, RepV c g' v w → Q w g'.H) → codeAny (model P w) A (.call (.ref f) ⟨xs, []⟩) (CR (L2.CX P w) outer P w g.H s Q E) s
structure SgOk (c : Glb) (P : Program) (w : World) (mg : Str → Option Value) (base : PySem.Heap) (k : Nat) (Γ : Sg) (U : EV.Env) : Prop where
  fn : ∀ (f : Nat) (x : String) (np : Nat), Γ.fns[f]? = some (x, np) → ∃ (fa : Addr) (fd : FuncData) (ps : List Str), FnG P w c.K mg base (L2.CX P w) k fa fd ps (spF c U f np) ∧ mg (x : Str) = some (.ref fa) ∧ PySem.W.keepIn c.K (.ref fa) = true ∧ Binds c.K fd ps [] ∧ c.fa f = some fa
  fa : ∀ f a, c.fa f = some a → ∃ p, Γ.fns[f]? = some p
  ar : ∀ (f : Nat) (x : String) (np : Nat) (vs : List Vl) (S : Sto), Γ.fns[f]? = some (x, np) → vs.length ≠ np → U.cf f vs S = .stuck
  blt : ∀ x ∈ Γ.blt, mg (x : Str) = none
  cl : ∀ (i : Nat) (x : String), Γ.cls[i]? = some x → ∃ (cv : Value) (v : V), c.ca i = some cv ∧ RelV v cv ∧ (∀ u, RelV v u → u = cv) ∧ (mg (x : Str) = some cv ∨ (mg (x : Str) = none ∧ bootBuiltins (x : Str) = some cv ∧ (x : Str) ≠ "__name__"))
  sb : ∀ i j b, U.sub i j = some b → ∃ (D : Addr) (cv : Value), c.ca i = some (.ref D) ∧ c.ca j = some cv ∧ PySem.W.exmOne c.K (.ref D) cv = some b ∧ PySem.W.kitOne c.K (.ref D) cv = some b ∧ ExcC c.K D
  rz : ∀ i x, i ∈ Γ.rz → Γ.cls[i]? = some x → ∃ (C : Addr) (B newId initId : String) (bmB : List Value), c.ca i = some (.ref C) ∧ mg (x : Str) = some (.ref C) ∧ PySem.W.keepIn c.K (.ref C) = true ∧ ExcBaseFacts B newId initId bmB ∧ PySem.W.excIn c.K C bmB newId = true ∧ PySem.W.subIn c.K (.ref C) (.type "BaseException") = some true ∧ PySem.W.typeIn c.K (.ref C) = some (.type "type")
  gv : ∀ (x : String) (d : D), (x, d) ∈ Γ.gv → ∃ (u : Value) (v : V), mg (x : Str) = some u ∧ RelV v u ∧ ∀ L H, Rep c.K L H d v
  lam : LamOk c P w mg base k U.cf
  lmk : ∀ fl I, Γ.lmk fl I = true → c.lam fl I
  pl : ∀ f vs S v S', U.cf f vs S = .ok v S' → plainV v = true
section
variable {c : Glb} {P : Program} {w : World} {mg : Str → Option Value} {base : PySem.Heap} {k : Nat} {N : List Str} {ws sc : Scope} {X : Cx} {Γ : Sg} {U : EV.Env}
theorem XG.blk (g : XG c P w mg base k N Γ ws sc X) (hh : Γ.hot = false) (s : Shared) (H : Hp) (scope : Scope) (hmn : (Γ.mn.isEmpty || !decide ((relS scope sc).names = Γ.mn)) = true) (C : Addr) (cl : List (Str × Addr)) (fp : List Addr) : XG c P w mg base k N Γ scope (relS scope sc) (X.blk s H scope (compEnvC scope cl C X.env) fp) :=
  ⟨g.prog, g.w, g.K, g.mg, g.base, g.eN, g.nd, by rw [← g.eS]; rfl, g.calm, fun x h => by show (scope.names.lookup x == some .cell) = true; rw [h]; rfl, g.room, g.hu, g.gd, g.cold, (fun a j e => by rw [g.cold hh] at e; cases e), fun h1 h2 => by
    rw [Bool.or_eq_true, List.isEmpty_iff] at hmn
    rcases hmn with q | q
    · exact absurd q h1
    · rw [decide_eq_true h2] at q; cases q⟩
theorem XG.vis (g : XG c P w mg base k N Γ ws sc X) {x : Str} (h : visB sc x = true) : Vis X.env.scope x := by
  rw [g.eS]
  unfold visB at h
  split at h
  · exact .inl (by assumption)
  · exact .inr (.inl (by assumption))
  · exact .inr (.inr (by assumption))
  · cases h
theorem XG.lcl (g : XG c P w mg base k N Γ ws sc X) {x : Str} (h : lclB sc x = true) : X.env.scope.names.lookup x = some .local := by
  rw [g.eS]
  unfold lclB at h
  split at h
  · assumption
  · cases h
theorem XG.lc (g : XG c P w mg base k N Γ ws sc X) {x : Str} (h : stB ws sc x = true) : L2.Loc X.env.scope x ∧ (X.fn x = true ∨ X.env.scope.names.lookup x = some .local) := by
  unfold stB at h
  rw [Bool.and_eq_true, Bool.or_eq_true] at h
  refine ⟨?_, ?_⟩
  · rw [g.eS]
    have h1 := h.1
    unfold locB at h1
    split at h1
    · exact .inl (by assumption)
    · exact .inr (by assumption)
    · cases h1
  · rcases h.2 with h2 | h2
    · exact .inr (g.lcl h2)
    · split at h2
      · exact .inl (g.fn x (by assumption))
      · cases h2
theorem XG.gl (g : XG c P w mg base k N Γ ws sc X) {x : Str} (h : glB sc x = true) : Gl X x := by
  show X.env.scope.names.lookup x = _
  rw [g.eS]
  unfold glB at h
  split at h
  · assumption
  · cases h
theorem XG.at_ (g : XG c P w mg base k N Γ ws sc X) {i : Nat} {x : Str} (h : N[i]? = some x) : X.N[i]? = some x := by rw [g.eN]; exact h
theorem XG.ndN (g : XG c P w mg base k N Γ ws sc X) : X.N.Nodup := by rw [g.eN]; exact g.nd
theorem SgOk.none (S : SgOk c P w mg base k Γ U) (g : XG c P w mg base k N Γ ws sc X) {x : String} (h : Γ.blt.contains x = true) : X.mg (x : Str) = none := by
  rw [g.mg]
  exact S.blt x (by simpa using h)
theorem okG_ok (g : XG c P w mg base k N Γ ws sc X) : ∀ (t : LT) (e : Expr), okG N Γ.hot ws t sc e = true → PG X e (tG c t)
  | .nm i, e, h => by
    unfold okG at h
    split at h
    · simp only [Bool.and_eq_true, decide_eq_true_eq] at h
      obtain ⟨h1, h2⟩ := g.lc h.2
      exact sg_nm g.ndN (g.at_ h.1) h1 h2
    · cases h
  | .tp a b, e, h => by
    unfold okG at h
    split at h
    · simp only [Bool.and_eq_true] at h
      obtain ⟨⟨⟨⟨h0, h1⟩, h2⟩, h3⟩, h4⟩ := h
      exact sg_tp g.K (g.calm (bnot h0)) h1 h2 (okG_ok g a _ h3) (okG_ok g b _ h4)
    · cases h
  | .tp3 a b d, e, h => by
    unfold okG at h
    split at h
    · simp only [Bool.and_eq_true] at h
      obtain ⟨⟨⟨⟨⟨⟨h0, h1⟩, h2⟩, h3⟩, h4⟩, h5⟩, h6⟩ := h
      exact sg_tp3 g.K (g.calm (bnot h0)) h1 h2 h3 (okG_ok g a _ h4) (okG_ok g b _ h5) (okG_ok g d _ h6)
    · cases h
end
end EV
end

section
set_option Elab.async false
set_option linter.all false
set_option maxRecDepth 100000
set_option maxHeartbeats 4000000
/-! EV19: objects known exactly, for a while -/
namespace EV
open PySem PySem.Spec PyProof.Rows L2
section
variable {P : Program} {w : World} {H H' : Hp} {h h' : PySem.Heap} {ts : List (Addr × Obj)}
theorem hok_add (ok : HOk P w H h) (ht : ∀ a o, ts.lookup a = some o → h.get? a = some o ∧ H a = none) : HOk P w (addX H ts) h := fun a u e => by
  rcases opt_cases (ts.lookup a) with q | ⟨o, q⟩
  · rw [addX_out q] at e
    have keep : ∀ b v, H b = some v → addX H ts b = some v := fun b v eb => by
      rcases opt_cases (ts.lookup b) with z | ⟨o, z⟩
      · rw [addX_out z]; exact eb
      · rw [(ht b o z).2] at eb; cases eb
    exact (ok a u e).stay (fun b v _ q => q) (fun b q => keep b _ q) fun b xs q => keep b _ q
  · rw [addX_in q] at e
    cases e
    exact exO_ok (ht a o q).1
theorem hok_sub (ok : HOk P w H h) (ht : ∀ a o, ts.lookup a = some o → H a = some (exO a o)) : HOk P w (subX H ts) h := fun a u e => by
  rcases opt_cases (ts.lookup a) with q | ⟨o, q⟩
  · rw [subX_out q] at e
    have keep : ∀ b v, H b = some v → (∀ φ, v ≠ .ext φ) → subX H ts b = some v := fun b v eb hv => by
      rcases opt_cases (ts.lookup b) with z | ⟨o, z⟩
      · rw [subX_out z]; exact eb
      · rw [ht b o z] at eb; cases eb; exact absurd rfl (hv _)
    exact (ok a u e).stay (fun b v _ q => q) (fun b q => keep b _ q (fun _ z => by cases z)) fun b xs q => keep b _ q (fun _ z => by cases z)
  · rw [subX_in q] at e; cases e
/-- an answer told with more known, told with less -/
theorem un_sub {fs : List Addr} (un : Un fs [] (addX H ts) H' h h') (ok' : HOk P w H' h') (ht : ∀ a o, ts.lookup a = some o → h.get? a = some o ∧ H a = none ∧ a ∉ fs) (hk : ∀ a o, ts.lookup a = some o → H' a = some (exO a o)) : Un fs [] H (subX H' ts) h h' := by
  have nin : ∀ {b : Addr} {v : HO}, H b = some v → ts.lookup b = none := fun {b v} e => by
    rcases opt_cases (ts.lookup b) with q | ⟨o, q⟩
    · exact q
    · rw [(ht b o q).2.1] at e; cases e
  refine ⟨fun b o e n nf nx => ?_, fun b o e n nf nx => ?_, fun b o e n nx => ?_, un.there, fun b xs e => ?_, fun b o u e => ?_, fun b ps e => ?_⟩
  · rcases opt_cases (ts.lookup b) with q | ⟨p, q⟩
    · exact un.keep b o e (by rw [addX_out q]; exact n) nf nx
    · have e1 := (ht b p q).1
      rw [e] at e1
      cases e1
      exact (ok' b _ (hk b _ q)).1
  · rcases opt_cases (ts.lookup b) with q | ⟨p, q⟩
    · exact un.slot b o e (by rw [addX_out q]; exact n) nf nx
    · exact absurd nf (ht b p q).2.2
  · rcases opt_cases (ts.lookup b) with q | ⟨p, q⟩
    · rw [subX_out q]; exact un.free b o e (by rw [addX_out q]; exact n) nx
    · exact subX_in q
  · rw [subX_out (nin e)]; exact un.tups b xs (by rw [addX_out (nin e)]; exact e)
  · rw [subX_out (nin e)]; exact un.frzs b o u (by rw [addX_out (nin e)]; exact e)
  · rw [subX_out (nin e)]; exact un.tbls b ps (by rw [addX_out (nin e)]; exact e)
/-- an answer told with less known, told with more -/
theorem un_add {fs : List Addr} (un : Un fs [] (subX H ts) H' h h') (ht : ∀ a o, ts.lookup a = some o → H a = some (exO a o) ∧ h.get? a = some o ∧ a ∉ fs) : Un fs [] H (addX H' ts) h h' ∧ ∀ a o, ts.lookup a = some o → h'.get? a = some o ∧ H' a = none := by
  have nin : ∀ {b : Addr} {v : HO}, H b = some v → (∀ φ, v ≠ .ext φ) → ts.lookup b = none := fun {b v} e hv => by
    rcases opt_cases (ts.lookup b) with q | ⟨o, q⟩
    · exact q
    · rw [(ht b o q).1] at e; cases e; exact absurd rfl (hv _)
  have nin2 : ∀ {b : Addr}, H b = none → ts.lookup b = none := fun {b} e => by
    rcases opt_cases (ts.lookup b) with q | ⟨o, q⟩
    · exact q
    · rw [(ht b o q).1] at e; cases e
  refine ⟨⟨fun b o e n nf nx => ?_, fun b o e n nf nx => ?_, fun b o e n nx => ?_, un.there, fun b xs e => ?_, fun b o u e => ?_, fun b ps e => ?_⟩, fun a o q => ?_⟩
  · exact un.keep b o e (by rw [subX_out (nin2 n)]; exact n) nf nx
  · exact un.slot b o e (by rw [subX_out (nin2 n)]; exact n) nf nx
  · rw [addX_out (nin2 n)]; exact un.free b o e (by rw [subX_out (nin2 n)]; exact n) nx
  · have q := nin e (fun _ z => by cases z)
    rw [addX_out q]; exact un.tups b xs (by rw [subX_out q]; exact e)
  · have q := nin e (fun _ z => by cases z)
    rw [addX_out q]; exact un.frzs b o u (by rw [subX_out q]; exact e)
  · have q := nin e (fun _ z => by cases z)
    obtain ⟨more, z⟩ := un.tbls b ps (by rw [subX_out q]; exact e)
    exact ⟨more, by rw [addX_out q]; exact z⟩
  · obtain ⟨_, e, nf⟩ := ht a o q
    exact ⟨un.keep a o e (subX_in q) nf (by simp), un.free a o e (subX_in q) (by simp)⟩
end
end EV
end

section
set_option Elab.async false
set_option linter.all false
set_option maxRecDepth 100000
set_option maxHeartbeats 4000000
/-! EV20: a lambda's body, run -/
namespace EV
open PySem PySem.Spec PyProof.Rows L2
abbrev lamE (qual : Str) (scope : Scope) (L f c' : Addr) (cells : List (Str × Addr)) : PySem.Env := PySem.W.envX qual scope L f (.ref c') cells
/-- the context of a lambda's body, entered at s from the frames outer -/
def cxLam (P : Program) (w : World) (K : PySem.W.Frag) (mg : Str → Option Value) (base : PySem.Heap) (N : List Str) (qual : Str) (scope : Scope) (f c' : Addr) (cells : List (Str × Addr)) (A : Around) (outer : List PySem.Env) (s : Shared) (H : Hp) (E : XK) : Cx where
  prog := P
  w := w
  K := K
  mg := mg
  base := base
  A := A.deeper (lamE qual scope s.heap.objs.size f c' cells)
  N := N
  s_0 := s
  H_0 := H
  env := lamE qual scope s.heap.objs.size f c' cells
  outer := outer
  stack := lamE qual scope s.heap.objs.size f c' cells :: outer
  ex := []
  fn := fun _ => false
  calm := true
  pn := []
  xe := fun e s' => wpAny (model P w) (A.deeper (lamE qual scope s.heap.objs.size f c' cells)) (leaving (lamE qual scope s.heap.objs.size f c' cells) e) (fun _ s'' => L2.CX P w outer H s E e s'') (fun e' s'' => L2.CX P w outer H s E e' s'') s'
section
variable {P : Program} {w : World} {K : PySem.W.Frag} {mg : Str → Option Value} {base : PySem.Heap}
theorem lam_inv {N : List Str} {qual : Str} {scope : Scope} {f c' : Addr} {cells : List (Str × Addr)} {A : Around} {outer : List PySem.Env} {s : Shared} {H : Hp} {E : XK} {h₁ : PySem.Heap} {tk : Nat} {m : Str → Option Value} {vs : List V}
    (e0 : Env0 P w K mg base A outer s H) (hd : A.handled = none) (hk : scope.kind = .function) (own : ∀ y, scope.names.lookup y ≠ some .cell) (hns : h₁.Ns s.heap.objs.size m) (kp : ∀ b o, s.heap.get? b = some o → h₁.get? b = some o)
    (hinj : ∀ x y c, cells.lookup x = some c → cells.lookup y = some c → x = y) (hfree : ∀ y, scope.names.lookup y = some .free → ∃ c, cells.lookup y = some c)
    (hcell : ∀ y c, cells.lookup y = some c → (∃ v, s.heap.IsCell c v) ∧ H c = none) (hlen : vs.length ≤ N.length)
    (hloc : ∀ (i : Nat) (y : Str) (v : V), N[i]? = some y → vs[i]? = some v → Vis scope y → ∃ u, RelV v u ∧ ((scope.names.lookup y = some .local ∧ m y = some u) ∨ (scope.names.lookup y = some .free ∧ ∃ c, cells.lookup y = some c ∧ s.heap.IsCell c (some u)))) :
    Inv (cxLam P w K mg base N qual scope f c' cells A outer s H E) [] (L2.start N vs) H { s with heap := h₁, toks := tk } := by
  have cellK : ∀ {c : Addr} {v : Option Value}, s.heap.IsCell c v → h₁.IsCell c v := fun {c v} ⟨o, ho, hd⟩ => ⟨o, kp _ _ ho, hd⟩
  have noA : ∀ b : Addr, b ∉ (cxLam P w K mg base N qual scope f c' cells A outer s H E).ex := fun b z => absurd (show b ∈ ([] : List Addr) from z) (by simp)
  refine ⟨⟨e0.mod, hk, rfl, rfl, Nat.le_refl _, hinj, fun y hy => ?_, fun y c z _ => ?_, fun _ => hd, Around.frames_deeper e0.frames, .inr ⟨rfl, rfl⟩, fun b z => absurd z (noA b), e0.bs, e0.bsz, fun b _ _ => noA b,
      fun b z => absurd z (noA b), e0.funs, e0.frf⟩,
    rfl, e0.bare, Un.kept kp, ⟨_, hns, fun i y v e1 e2 e3 => ?_⟩, fun y c e => ?_, e0.hok.fresh (Nat.le_refl _), fun y c e => (hcell y c e).2, fun q hq => absurd (show q ∈ ([] : List (Addr × Obj)) ++ [] from hq) (by simp), e0.hok.kept kp, ?_⟩
  · have hy : scope.names.lookup y = some .cell ∨ scope.names.lookup y = some .free := hy
    rcases hy with hy | hy
    · exact absurd hy (own y)
    · exact hfree y hy
  · have z : false = true := z
    cases z
  · have hi : vs[i]? = some v := by
      unfold L2.start at e2
      by_cases hi : i < vs.length
      · rw [List.getElem?_append_left (by simpa using hi), List.getElem?_map] at e2
        cases q : vs[i]? with
        | none => rw [q] at e2; cases e2
        | some a => rw [q] at e2; cases e2; rfl
      · rw [List.getElem?_append_right (by simpa using hi), List.getElem?_replicate] at e2
        split at e2 <;> cases e2
    obtain ⟨u, r, q⟩ := hloc i y v e1 hi e3
    refine ⟨u, r, ?_⟩
    rcases q with ⟨k, q⟩ | ⟨k, c, hc, q⟩
    · exact .inl ⟨k, q⟩
    · exact .inr ⟨.inr k, c, hc, cellK q⟩
  · obtain ⟨⟨v, q⟩, _⟩ := hcell y c e
    exact ⟨v, cellK q⟩
  · unfold L2.start
    show _ = N.length
    rw [List.length_append, List.length_map, List.length_replicate]
    omega
/-- a lambda called: its body in its own context -/
theorem lam_run {N : List Str} {name qual : Str} {params : Arguments} {body : Expr} {scope : Scope} {cells : List (Str × Addr)} {dV doc pm ctv : Value} {f c' : Addr} {A : Around} {outer : List PySem.Env} {s : Shared} {H : Hp} {E : XK} {Q : VK} {k : Nat} {us : List Value} {vs : List V} {binds : List (Str × Value)} {t : TE}
    (hr : RoomG (k + 1) A) (e0 : Env0 P w K mg base A outer s H) (hl : s.heap.NoLimit) (ho : s.heap.get? f = some (PySem.W.kdv_obj name qual params (.expr body) scope cells dV doc pm c' ctv)) (hcode : s.heap.CodeRec (.ref c') qual)
    (hk : scope.kind = .function) (hco : scope.isCoroutine = false) (hgen : scope.isGenerator = false) (own : ∀ y ∈ scope.names, y.2 ≠ .cell)
    (hbind : BindsTo s (PySem.W.kdv_fn name qual params (.expr body) scope cells dV doc pm (.ref c') ctv) ⟨us, []⟩ binds) (hbl : ∀ x ∈ binds, scope.names.lookup x.1 = some .local)
    (hinj : ∀ x y c, cells.lookup x = some c → cells.lookup y = some c → x = y) (hfree : ∀ y, scope.names.lookup y = some .free → ∃ c, cells.lookup y = some c)
    (hcell : ∀ y c, cells.lookup y = some c → (∃ v, s.heap.IsCell c v) ∧ H c = none) (hlen : vs.length ≤ N.length)
    (hloc : ∀ (i : Nat) (y : Str) (v : V), N[i]? = some y → vs[i]? = some v → Vis scope y → ∃ u, RelV v u ∧ ((scope.names.lookup y = some .local ∧ binds.reverse.lookup y = some u) ∨ (scope.names.lookup y = some .free ∧ ∃ c, cells.lookup y = some c ∧ s.heap.IsCell c (some u))))
    (hbody : PE (cxLam P w K mg base N qual scope f c' cells A outer s H E) body t) (ht : t (L2.start N vs) H Q) :
    codeAny (model P w) A (.call (.ref f) ⟨us, []⟩) (CR (L2.CX P w) outer P w H s Q E) s := by
  refine PySem.W.kla_callFunE hr.depth ho rfl hco hgen rfl hcode (hbind _ _ _ _ ?_)
  refine (wpAny_newFunctionEnv own hbl (fun h₁ hns hsb => ⟨hl.fresh _ hsb, ?_⟩) hk)
  show codeAny _ _ (.expr body (lamE qual scope s.heap.objs.size f c' cells)) _ _
  have kp : ∀ b o, s.heap.get? b = some o → h₁.get? b = some o := fun b o e => hsb.extBut b o (Nat.ne_of_lt (Heap.lt_size e)) (Heap.get?_push_of_some _ e)
  have J : Inv (cxLam P w K mg base N qual scope f c' cells A outer s H E) [] (L2.start N vs) H { s with heap := h₁, toks := s.toks + binds.length } :=
    lam_inv e0 hr.hd hk (fun y z => own _ (PySem.mem_of_lookup z) rfl) hns kp hinj hfree hcell hlen hloc
  refine PySem.W.kla_codeExpr (wpAny_mono (hbody.run [] _ _ H Q J ht) (fun v s' hq => ?_) fun e s' hq => hq)
  obtain ⟨w', H', J', rv, q⟩ := hq
  exact ⟨w', H', J'.os, J'.bare, J'.base, J'.hok, rv, q⟩
end
end EV
end

section
set_option Elab.async false
set_option linter.all false
set_option maxRecDepth 100000
set_option maxHeartbeats 4000000
/-! EV21: a call's end told with more or less known -/
namespace EV
open PySem PySem.Spec PyProof.Rows L2
section
variable {P : Program} {w : World} {H H' : Hp} {h B h' : PySem.Heap} {ts : List (Addr × Obj)} {fs : List Addr}
theorem ub_sub (ub : UB fs (addX H ts) H' h B h') (okB : HOk P w H' B) (ht : ∀ a o, ts.lookup a = some o → h.get? a = some o ∧ H a = none ∧ a ∉ fs) (hk : ∀ a o, ts.lookup a = some o → H' a = some (exO a o)) : UB fs H (subX H' ts) h B h' := by
  have nin : ∀ {b : Addr} {v : HO}, H b = some v → ts.lookup b = none := fun {b v} e => by
    rcases opt_cases (ts.lookup b) with q | ⟨o, q⟩
    · exact q
    · rw [(ht b o q).2.1] at e; cases e
  refine ⟨fun b o e n nf => ?_, ub.slot, fun b o e n => ?_, ub.there, fun b xs e => ?_, fun b o u e => ?_, fun b ps e => ?_⟩
  · rcases opt_cases (ts.lookup b) with q | ⟨p, q⟩
    · exact ub.keep b o e (by rw [addX_out q]; exact n) nf
    · have e1 := (ht b p q).1
      rw [e] at e1
      cases e1
      exact (okB b _ (hk b _ q)).1
  · rcases opt_cases (ts.lookup b) with q | ⟨p, q⟩
    · rw [subX_out q]; exact ub.free b o e (by rw [addX_out q]; exact n)
    · exact subX_in q
  · rw [subX_out (nin e)]; exact ub.tups b xs (by rw [addX_out (nin e)]; exact e)
  · rw [subX_out (nin e)]; exact ub.frzs b o u (by rw [addX_out (nin e)]; exact e)
  · rw [subX_out (nin e)]; exact ub.tbls b ps (by rw [addX_out (nin e)]; exact e)
theorem ub_add (ub : UB fs (subX H ts) H' h B h') (ht : ∀ a o, ts.lookup a = some o → H a = some (exO a o) ∧ h.get? a = some o ∧ a ∉ fs) : UB fs H (addX H' ts) h B h' ∧ ∀ a o, ts.lookup a = some o → B.get? a = some o ∧ H' a = none := by
  have nin : ∀ {b : Addr} {v : HO}, H b = some v → (∀ φ, v ≠ .ext φ) → ts.lookup b = none := fun {b v} e hv => by
    rcases opt_cases (ts.lookup b) with q | ⟨o, q⟩
    · exact q
    · rw [(ht b o q).1] at e; cases e; exact absurd rfl (hv _)
  have nin2 : ∀ {b : Addr}, H b = none → ts.lookup b = none := fun {b} e => by
    rcases opt_cases (ts.lookup b) with q | ⟨o, q⟩
    · exact q
    · rw [(ht b o q).1] at e; cases e
  refine ⟨⟨fun b o e n nf => ?_, ub.slot, fun b o e n => ?_, ub.there, fun b xs e => ?_, fun b o u e => ?_, fun b ps e => ?_⟩, fun a o q => ?_⟩
  · exact ub.keep b o e (by rw [subX_out (nin2 n)]; exact n) nf
  · rw [addX_out (nin2 n)]; exact ub.free b o e (by rw [subX_out (nin2 n)]; exact n)
  · have q := nin e (fun _ z => by cases z)
    rw [addX_out q]; exact ub.tups b xs (by rw [subX_out q]; exact e)
  · have q := nin e (fun _ z => by cases z)
    rw [addX_out q]; exact ub.frzs b o u (by rw [subX_out q]; exact e)
  · have q := nin e (fun _ z => by cases z)
    obtain ⟨more, z⟩ := ub.tbls b ps (by rw [subX_out q]; exact e)
    exact ⟨more, by rw [addX_out q]; exact z⟩
  · obtain ⟨_, e, nf⟩ := ht a o q
    exact ⟨ub.keep a o e (subX_in q) nf, ub.free a o e (subX_in q)⟩
theorem cr_sub {outer : List PySem.Env} {s s' : Shared} {Q Q' : VK} {E E' : XK} {r : Result} (c : CR (L2.CX P w) outer P w (addX H ts) s Q' E' r s') (ht : ∀ a o, ts.lookup a = some o → s.heap.get? a = some o ∧ H a = none ∧ a ∉ frs outer)
    (hQ : ∀ v H', Q' v H' → (∀ a o, ts.lookup a = some o → H' a = some (exO a o)) ∧ Q v (subX H' ts)) (hE : ∀ cls d H', E' cls d H' → (∀ a o, ts.lookup a = some o → H' a = some (exO a o)) ∧ E cls d (subX H' ts)) : CR (L2.CX P w) outer P w H s Q E r s' := by
  cases r with
  | error e =>
    obtain ⟨a, B, H', cls, d, rfl, fl, ok, ub, na, os, ag, q⟩ := c
    obtain ⟨hk, q⟩ := hE _ _ _ q
    refine ⟨a, B, subX H' ts, cls, d, rfl, fl, hok_sub ok hk, ub_sub ub ok ht hk, ?_, os, ag, q⟩
    unfold subX
    split
    · rfl
    · exact na
  | ok fl =>
    cases fl with
    | ret u =>
      obtain ⟨v, H', os, bare, un, ok, rv, q⟩ := c
      obtain ⟨hk, q⟩ := hQ _ _ q
      exact ⟨v, subX H' ts, os, bare, un_sub un ok ht hk, hok_sub ok hk, rv, q⟩
    | next => exact c
    | brk => exact c
    | cont => exact c
theorem cr_add {outer : List PySem.Env} {s s' : Shared} {Q : VK} {E : XK} {r : Result} (c : CR (L2.CX P w) outer P w (subX H ts) s (fun v H' => (∀ a o, ts.lookup a = some o → H' a = none) → Q v (addX H' ts)) (fun cls d H' => (∀ a o, ts.lookup a = some o → H' a = none) → E cls d (addX H' ts)) r s')
    (ht : ∀ a o, ts.lookup a = some o → H a = some (exO a o) ∧ s.heap.get? a = some o ∧ a ∉ frs outer) : CR (L2.CX P w) outer P w H s Q E r s' := by
  cases r with
  | error e =>
    obtain ⟨a, B, H', cls, d, rfl, fl, ok, ub, na, os, ag, q⟩ := c
    obtain ⟨ub2, hk⟩ := ub_add ub ht
    refine ⟨a, B, addX H' ts, cls, d, rfl, fl, hok_add ok hk, ub2, ?_, os, ag, q fun b o z => (hk b o z).2⟩
    rcases opt_cases (ts.lookup a) with z | ⟨o, z⟩
    · rw [addX_out z]; exact na
    · have e1 := (hk a o z).1
      rw [fl.2.1] at e1
      cases e1
  | ok fl =>
    cases fl with
    | ret u =>
      obtain ⟨v, H', os, bare, un, ok, rv, q⟩ := c
      obtain ⟨un2, hk⟩ := un_add un ht
      exact ⟨v, addX H' ts, os, bare, un2, hok_add ok hk, rv, q fun b o z => (hk b o z).2⟩
    | next => exact c
    | brk => exact c
    | cont => exact c
end
end EV
end

section
set_option Elab.async false
set_option linter.all false
set_option maxRecDepth 100000
set_option maxHeartbeats 4000000
/-! EV22: the heap's telling with exact objects taken away, or added -/
namespace EV
open PySem PySem.Spec PyProof.Rows L2
/-- what is told by its kind stands -/
def Me (H H' : Hp) : Prop := ∀ a o, H a = some o → (∀ φ, o ≠ .ext φ) → H' a = some o
section
variable {K : PySem.W.Frag} {L : Addr → Prop} {H H' : Hp}
theorem Me.tup (m : Me H H') {a : Addr} {ds : List D} {vs : List V} (h : TupAt K H a ds vs) : TupAt K H' a ds vs := by
  rcases h with h | h
  · exact .inl (m a _ h fun φ z => by cases z)
  · exact .inr h
mutual
theorem Rep.me (m : Me H H') : ∀ (d : D) (v : V), Rep K L H d v → Rep K L H' d v
  | .non, _, h => by cases h; exact .non
  | .bl b, _, h => by cases h; exact .bl b
  | .int i, _, h => by cases h; exact .int i
  | .str s, _, h => by cases h with | str o => exact .str o
  | .tup ds, _, h => by
    cases h with
    | tup hs hl hr => exact .tup (m.tup hs) hl (Reps.me m ds _ hr)
  | .lst ds, _, h => by
    cases h with
    | lst ha hn hl hr => exact .lst (m _ _ ha fun φ z => by cases z) hn hl (Reps.me m ds _ hr)
theorem Reps.me (m : Me H H') : ∀ (ds : List D) (vs : List V), Reps K L H ds vs → Reps K L H' ds vs
  | [], _, h => by cases h; exact .nil
  | d :: ds, _, h => by
    cases h with
    | cons h1 h2 => exact .cons (Rep.me m d _ h1) (Reps.me m ds _ h2)
end
theorem RepKs.me (m : Me H H') : ∀ {ks : List (Ky × D)} {vs : List (Key × V)}, RepKs K L H ks vs → RepKs K L H' ks vs
  | _, _, .nil => .nil
  | _, _, .cons o r t => .cons o (Rep.me m _ _ r) (RepKs.me m t)
theorem RepTs.me (m : Me H H') : ∀ {ks : List (List Int × D)} {vs : List (List Key × V)}, RepTs K L H ks vs → RepTs K L H' ks vs
  | _, _, .nil => .nil
  | _, _, .cons r t => .cons (Rep.me m _ _ r) (RepTs.me m t)
theorem CellOk.me (m : Me H H') {a : Addr} {x : Cell} (h : CellOk K L H a x) : CellOk K L H' a x := by
  cases x with
  | lst ds => obtain ⟨vs, e, hl, r⟩ := h; exact ⟨vs, m _ _ e (fun φ z => by cases z), hl, Reps.me m _ _ r⟩
  | fzn ds => exact Rep.me m _ _ h
  | dic kvs => obtain ⟨vs, e, hl, r⟩ := h; exact ⟨vs, m _ _ e (fun φ z => by cases z), hl, r.me m⟩
  | fzd kvs => obtain ⟨o, vs, e, hn, hl, r⟩ := h; exact ⟨o, vs, m _ _ e (fun φ z => by cases z), hn, hl, r.me m⟩
  | dit kvs => obtain ⟨vs, e, hl, r⟩ := h; exact ⟨vs, m _ _ e (fun φ z => by cases z), hl, r.me m⟩
end
section
variable {c : Glb} {g : G} {H' : Hp} {ts : List (Addr × Obj)}
theorem gok_me (ok : GOk c g) (m : Me g.H H') (t : LamX.Tabs c.tabs H') : GOk c ⟨g.hid, g.ρ, g.S, H'⟩ :=
  ⟨ok.len, ok.nd, ok.apart, fun a ha => by
    rcases ok.hid a ha with ⟨xs, e⟩ | ⟨kvs, e⟩ | ⟨kvs, e⟩
    · exact .inl ⟨xs, m _ _ e fun φ z => by cases z⟩
    · exact .inr (.inl ⟨kvs, m _ _ e fun φ z => by cases z⟩)
    · exact .inr (.inr ⟨kvs, m _ _ e fun φ z => by cases z⟩), fun n a x h1 h2 => (ok.cell n a x h1 h2).me m, t⟩
theorem me_sub {H : Hp} (ht : ∀ a o, ts.lookup a = some o → H a = some (exO a o)) : Me H (subX H ts) := fun a o e n => by
  rcases opt_cases (ts.lookup a) with z | ⟨p, z⟩
  · rw [subX_out z]; exact e
  · have q := ht a p z
    rw [e] at q
    cases q
    exact absurd rfl (n _)
theorem add_keep {H : Hp} (ht : ∀ a o, ts.lookup a = some o → H a = none) : ∀ a o, H a = some o → addX H ts a = some o := fun a o e => by
  rcases opt_cases (ts.lookup a) with z | ⟨p, z⟩
  · rw [addX_out z]; exact e
  · rw [ht a p z] at e; cases e
theorem me_add {H : Hp} (ht : ∀ a o, ts.lookup a = some o → H a = none) : Me H (addX H ts) := fun a o e _ => add_keep ht a o e
/-- cells are no code objects -/
theorem tabs_sub {P : Program} {w : World} {H : Hp} {h : PySem.Heap} (ok : HOk P w H h) (t : LamX.Tabs c.tabs H) (ht : ∀ a o, ts.lookup a = some o → H a = some (exO a o) ∧ h.get? a = some o ∧ ∃ v, o.data = .cell v) : LamX.Tabs c.tabs (subX H ts) := fun p hp => by
  obtain ⟨ps, q1, q2, q3⟩ := t p hp
  have me : Me H (subX H ts) := me_sub fun a o e => (ht a o e).1
  refine ⟨ps, me _ _ q1 (fun φ z => by cases z), q2, fun pos cv hc => ?_⟩
  obtain ⟨c0, z1, z2⟩ := q3 pos cv hc
  refine ⟨c0, z1, ?_⟩
  rcases opt_cases (ts.lookup c0) with z | ⟨o, z⟩
  · rw [subX_out z]; exact z2
  · obtain ⟨_, e2, v, e3⟩ := ht c0 o z
    obtain ⟨⟨oc, vs, t, e4, e5, _⟩, _, _⟩ := ok c0 _ z2
    rw [e2] at e4
    cases e4
    rw [e3] at e5
    cases e5
theorem tabs_add {H : Hp} (t : LamX.Tabs c.tabs H) (ht : ∀ a o, ts.lookup a = some o → H a = none) : LamX.Tabs c.tabs (addX H ts) := t.ext (add_keep ht)
theorem RepB.me {v : Vl} {w : V} (r : RepB c g v w) (m : Me g.H H') : RepB c ⟨g.hid, g.ρ, g.S, H'⟩ v w := by
  cases r with
  | d r => exact .d (Rep.me m _ _ r)
  | ref e => exact .ref e
  | fnv e => exact .fnv e
theorem RepB.v {v : Vl} {w : V} (r : RepB c g v w) : RepV c g v w := by
  cases r with
  | d r => exact .d r
  | ref e => exact .ref e
  | fnv e => exact .fnv e
theorem RepBs.me : ∀ {vs : List Vl} {ws : List V}, RepBs c g vs ws → Me g.H H' → RepBs c ⟨g.hid, g.ρ, g.S, H'⟩ vs ws
  | _, _, .nil, _ => .nil
  | _, _, .cons r t, m => .cons (r.me m) (RepBs.me t m)
theorem RepBs.vs : ∀ {vs : List Vl} {ws : List V}, RepBs c g vs ws → RepVs c g vs ws
  | _, _, .nil => .nil
  | _, _, .cons r t => .cons r.v (RepBs.vs t)
theorem RepVs.app : ∀ {xs ys : List Vl} {vs ws : List V}, RepVs c g xs vs → RepVs c g ys ws → RepVs c g (xs ++ ys) (vs ++ ws)
  | _, _, _, _, .nil, t => t
  | _, _, _, _, .cons r s, t => .cons r (RepVs.app s t)
end
end EV
end

section
set_option Elab.async false
set_option linter.all false
set_option maxRecDepth 100000
set_option maxHeartbeats 4000000
/-! EV26: a lambda made, handed to a def -/
namespace EV
open PySem PySem.Spec PyProof.Rows L2
/-! ### the heap grows by objects known exactly and by tables -/
section
variable {c : Glb} {g : G} {H1 : Hp}
theorem mo_extN (h : GOk c g) (e : LamX.ExtN g.H H1) : Mo (live g) g.H (live g) H1 := ⟨fun a o q nl t => ⟨e a o q t, nl⟩, h.lv⟩
theorem live_extN {a : Addr} : live (⟨g.hid, g.ρ, g.S, H1⟩ : G) a ↔ live g a := Iff.rfl
theorem extN_same (h : GOk c g) (e : LamX.ExtN g.H H1) {a : Addr} (l : live g a) : H1 a = g.H a := by
  rcases h.lv a l with ⟨xs, q⟩ | ⟨xs, q⟩ | ⟨xs, q⟩ <;> rw [q, e a _ q (fun ps z => by cases z)]
theorem gok_extN (h : GOk c g) (e : LamX.ExtN g.H H1) (t : LamX.Tabs c.tabs H1) : GOk c ⟨g.hid, g.ρ, g.S, H1⟩ :=
  ⟨h.len, h.nd, h.apart, fun a ha => hid_same (h.hid a ha) (extN_same h e (.inl ha)), fun n a x h1 h2 => CellOk.mo (L := live g) (H := g.H) (mo_extN (g := g) h e) (fun z => extN_same (g := g) h e (.inr ⟨n, x, h1, h2, z⟩)) (h.cell n a x h1 h2), t⟩
theorem le_extN (h : GOk c g) (e : LamX.ExtN g.H H1) (gr : ∀ b, g.H b ≠ none → H1 b ≠ none) : Le g ⟨g.hid, g.ρ, g.S, H1⟩ :=
  ⟨List.prefix_refl _, rfl, fun a ha => extN_same h e (.inl ha), fun a o q nl t => ⟨e a o q t, nl⟩, gr⟩
end
theorem extN_upd {H : Hp} {a : Addr} {o : HO} (n : H a = none) : LamX.ExtN H (upd H a o) := fun b u e _ => by rw [upd_ne (ne_of_none e n)]; exact e
theorem grow_upd {H : Hp} {a : Addr} {o : HO} : ∀ b, H b ≠ none → upd H a o b ≠ none := fun b h => by
  by_cases e : b = a
  · subst e; rw [upd_same]; simp
  · rw [upd_ne e]; exact h
/-! ### the making -/
section
variable {X : Cx} {pins : List (Addr × Obj)} {σ : L2.St} {H : Hp} {s : Shared}
theorem lam_tail {T : List (Addr × Str)} {cc P : Addr} {params : Arguments} {body : Expr} {scope : Scope} {pos : Pos} {dV : Value} {E Q : Value → Shared → Prop} (I : Inv X pins σ H s) (TB : LamX.TabB X.base X.mg cc P) (hcode : X.env.code = .ref cc)
    (hm : (P, X.env.qual ++ "<lambda>") ∈ T) (hu : ∀ p ∈ T, p.1 = P → p.2 = X.env.qual ++ "<lambda>") (hT : LamX.Tabs T H) (hfree : ∀ y ∈ scope.names, y.2 = .free → ∃ a, X.env.cells.lookup y.1 = some a)
    (h : ∀ (f c' : Addr) (doc pm ctv : Value) (H1 : Hp) (s' : Shared), Inv X pins σ H1 s' → LamX.ExtN H H1 → (∀ b, H b ≠ none → H1 b ≠ none) → LamX.Tabs T H1 →
      H1 f = some (exO f (PySem.W.kdv_obj "<lambda>" (X.env.qual ++ "<lambda>") params (.expr body) scope (cloFrom X.env.cells scope.names []) dV doc pm c' ctv)) → H1 c' = some (LamX.CodeO c' (X.env.qual ++ "<lambda>")) → Q (.ref f) s') :
    wpAny (model X.prog X.w) X.A (makeTail "<lambda>" (X.env.qual ++ "<lambda>") params (.expr body) scope X.env dV .none none pos pos.line) Q E s := by
  obtain ⟨ps, hP, ht, ha⟩ := hT _ hm
  have bP : s.heap.BuiltinsAt X.mg P := TB.bm.keeps I.bk
  have hP' : s.heap.get? P = some { cls := .none, data := .fields ps } := I.hok P _ hP
  cases hc : codeAmong pos ps.toList with
  | none =>
    refine PySem.W.kdv_makeTail (mg := X.mg) (c := cc) (P := P) (ps := ps) (closure_ok hfree) I.ok.glob (I.mod.glob.keeps I.bk) hcode (TB.code.keeps I.bk) hP' ht hc TB.gP bP fun c' ctv doc h' tk hx hge hlt hrec htb => ?_
    obtain ⟨c2, oc, vs, t, e2, hoc, hd, hv⟩ := hrec
    cases e2
    have nC : H c' = none := I.hok.fresh hge
    have I1 := LamX.inv_table (t' := tk) (more := #[rawInt pos.line, rawInt pos.col, .ref c']) (h' := h') I hP (fun b o hb e => hx b o hb e) htb hge ⟨oc, vs, t, hoc, hd, hv⟩
    have hE : LamX.ExtN H (upd (upd H P (.tbl (ps ++ #[rawInt pos.line, rawInt pos.col, .ref c']))) c' (LamX.CodeO c' (X.env.qual ++ "<lambda>"))) := fun b o e n => by
      rw [upd_ne (ne_of_none e nC), upd_ne (fun z => n ps (Option.some.inj (e.symm.trans (by rw [z]; exact hP))))]
      exact e
    have eL : (ps ++ #[rawInt pos.line, rawInt pos.col, .ref c']).toList = ps.toList ++ [rawInt pos.line, rawInt pos.col, .ref c'] := by simp
    have T1 : LamX.Tabs T (upd (upd H P (.tbl (ps ++ #[rawInt pos.line, rawInt pos.col, .ref c']))) c' (LamX.CodeO c' (X.env.qual ++ "<lambda>"))) := fun p hp => by
      by_cases hb : p.1 = P
      · rw [hu p hp hb, hb]
        refine ⟨_, by rw [upd_ne (ne_of_none hP nC), upd_same], by rw [eL]; exact PySem.TriplesOk_snoc _ _ _ _ ht, fun p' cv hcv => ?_⟩
        rw [eL] at hcv
        rcases LamX.among_app _ ht hcv with z | z
        · obtain ⟨c0, e1, e2⟩ := ha p' cv z
          exact ⟨c0, e1, hE _ _ e2 LamX.codeO_ne⟩
        · exact ⟨c', z, upd_same⟩
      · obtain ⟨ps', a1, a2, a3⟩ := hT p hp
        refine ⟨ps', by rw [upd_ne (ne_of_none a1 nC), upd_ne hb]; exact a1, a2, fun p' cv hcv => ?_⟩
        obtain ⟨c0, e1, e2⟩ := a3 p' cv hcv
        exact ⟨c0, e1, hE _ _ e2 LamX.codeO_ne⟩
    have nF : upd (upd H P (.tbl (ps ++ #[rawInt pos.line, rawInt pos.col, .ref c']))) c' (LamX.CodeO c' (X.env.qual ++ "<lambda>")) h'.objs.size = none := I1.hok.fresh (Nat.le_refl _)
    have I2 := I1.laid (t' := tk) (a := h'.objs.size) (h' := h'.push (PySem.W.kdv_obj "<lambda>" (X.env.qual ++ "<lambda>") params (.expr body) scope (cloFrom X.env.cells scope.names []) dV doc ((X.mg "__name__").getD .none) c' ctv))
      (o := exO h'.objs.size (PySem.W.kdv_obj "<lambda>" (X.env.qual ++ "<lambda>") params (.expr body) scope (cloFrom X.env.cells scope.names []) dV doc ((X.mg "__name__").getD .none) c' ctv)) (fun b u e => Heap.get?_push_of_some _ e) (Nat.le_refl _) (exO_ok (Heap.get?_push_size _ rfl))
    have e2 := extN_upd (o := exO h'.objs.size (PySem.W.kdv_obj "<lambda>" (X.env.qual ++ "<lambda>") params (.expr body) scope (cloFrom X.env.cells scope.names []) dV doc ((X.mg "__name__").getD .none) c' ctv)) nF
    refine h h'.objs.size c' doc _ ctv _ _ I2 (hE.trans e2) (fun b hb => grow_upd b (grow_upd b (grow_upd b hb))) (T1.ext fun b u e => by rw [upd_ne (ne_of_none e nF)]; exact e) upd_same ?_
    rw [upd_ne (Nat.ne_of_lt hlt), upd_same]
  | some cv =>
    obtain ⟨c', e, hco⟩ := ha pos cv hc
    subst e
    refine PySem.W.kdv_makeTailHit (mg := X.mg) (c := cc) (P := P) (ps := ps) (closure_ok hfree) I.ok.glob (I.mod.glob.keeps I.bk) hcode (TB.code.keeps I.bk) hP' ht hc bP fun ctv doc h' tk hx hsz => ?_
    have I1 : Inv X pins σ H { s with heap := h', toks := tk } := I.kept hx
    have nF : H h'.objs.size = none := I1.hok.fresh (Nat.le_refl _)
    have I2 := I1.laid (t' := tk) (a := h'.objs.size) (h' := h'.push (PySem.W.kdv_obj "<lambda>" (X.env.qual ++ "<lambda>") params (.expr body) scope (cloFrom X.env.cells scope.names []) dV doc ((X.mg "__name__").getD .none) c' ctv))
      (o := exO h'.objs.size (PySem.W.kdv_obj "<lambda>" (X.env.qual ++ "<lambda>") params (.expr body) scope (cloFrom X.env.cells scope.names []) dV doc ((X.mg "__name__").getD .none) c' ctv)) (fun b u e => Heap.get?_push_of_some _ e) (Nat.le_refl _) (exO_ok (Heap.get?_push_size _ rfl))
    refine h h'.objs.size c' doc _ ctv _ _ I2 (extN_upd nF) grow_upd (hT.ext fun b u e => by rw [upd_ne (ne_of_none e nF)]; exact e) upd_same ?_
    rw [upd_ne (ne_of_none hco nF)]
    exact hco
end
/-- the lambda's objects, but its cells -/
structure LamAt (c : Glb) (X : Cx) (H : Hp) (fl : Nat) (f : Addr) (I : LamI) : Prop where
  lam : c.lam fl I
  free : ∀ y ∈ I.scope.names, y.2 = .free → y.1 ∈ I.caps
  cap : ∀ y ∈ I.caps, I.scope.names.lookup y = some .free ∧ X.env.scope.names.lookup y = some .cell
  at_ : ∃ (c' : Addr) (doc pm ctv dV : Value), H f = some (exO f (PySem.W.kdv_obj "<lambda>" (X.env.qual ++ "<lambda>") I.params (.expr I.body) I.scope (cloFrom X.env.cells I.scope.names []) dV doc pm c' ctv)) ∧ H c' = some (LamX.CodeO c' (X.env.qual ++ "<lambda>")) ∧
    ((I.dfl = 0 ∧ dV = .none) ∨ (I.dfl ≠ 0 ∧ ∃ (t : Addr) (o : Obj) (its : List Value) (n : Nat), dV = .ref t ∧ H t = some (exO t o) ∧ o.data = .seq its.toArray n ∧ its.length = I.dfl))
theorem LamAt.lw {c : Glb} {X : Cx} {g g' : G} {fl : Nat} {f : Addr} {I : LamI} (k : LamAt c X g.H fl f I) (h : GOk c g) (l : Lw g g') : LamAt c X g'.H fl f I := by
  obtain ⟨c', doc, pm, ctv, dV, q1, q2, q3⟩ := k.at_
  exact ⟨k.lam, k.free, k.cap, c', doc, pm, ctv, dV, ext_keep h l q1, ext_keep h l q2, q3.imp id fun ⟨z, t, o, its, n, e1, e2, e3, e4⟩ => ⟨z, t, o, its, n, e1, ext_keep h l e2, e3, e4⟩⟩
section
variable {X : Cx} {c : Glb}
theorem pe_lam {N : List Str} {Γ : Sg} {fl : Nat} {caps : List Nat} {sc : Scope} {e : Expr} (h : lamB Γ N fl caps sc e = true) (eS : X.env.scope = sc) (mk : Γ.mn ≠ [] → sc.names = Γ.mn → MkAt c X ∧ ∀ y a, X.env.cells.lookup y = some a → X.fn y = true)
    (hl : ∀ fl I, Γ.lmk fl I = true → c.lam fl I) : ∃ I : LamI, I.caps = namesAt N caps ∧ PE X e (fun σ H Q => ∃ g : G, g.H = H ∧ GOk c g ∧ ∀ f H1, GOk c ⟨g.hid, g.ρ, g.S, H1⟩ → Le g ⟨g.hid, g.ρ, g.S, H1⟩ → LamAt c X H1 fl f I → Q (.ref f) H1) := by
  unfold lamB at h
  split at h
  · rename_i params body scope pos
    simp only [Bool.and_eq_true, decide_eq_true_eq, List.all_eq_true] at h
    obtain ⟨⟨⟨⟨⟨⟨h1, h2⟩, h3⟩, h4⟩, h5⟩, h6⟩, h7⟩ := h
    have hne : Γ.mn ≠ [] := fun z => by rw [z] at h1; cases h1
    obtain ⟨⟨cc, P, k1, k2, k3, k4⟩, k5⟩ := mk hne h2
    have free : ∀ y ∈ scope.names, y.2 = .free → y.1 ∈ namesAt N caps := fun y hy e => by
      have q := h6 y hy
      rw [Bool.or_eq_true] at q
      rcases q with q | q
      · rw [decide_eq_true e] at q; cases q
      · simpa using q
    have cap : ∀ y ∈ namesAt N caps, scope.names.lookup y = some .free ∧ X.env.scope.names.lookup y = some .cell := fun y hy => by
      rw [eS]
      exact h7 y hy
    refine ⟨⟨params, body, scope, namesAt N caps, params.defaults.length⟩, rfl, ⟨fun pins s σ H Q I q => ?_⟩⟩
    obtain ⟨g, rfl, ok, q⟩ := q
    have hfree : ∀ y ∈ scope.names, y.2 = .free → ∃ a, X.env.cells.lookup y.1 = some a := fun y hy e => I.ok.has _ (.inl (cap _ (free y hy e)).2)
    unfold dflB at h4
    rw [Bool.and_eq_true, List.isEmpty_iff] at h4
    obtain ⟨d1, d2⟩ := h4
    split at d2
    · rename_i hd
      refine PySem.W.kla_eval (by rw [PySem.defaultsOf_eq, hd, d1]; rfl) ?_
      rw [makeFunction_eq]
      simp only [List.zip_nil_right, List.filterMap_nil, List.isEmpty_nil, if_true, pure_bind]
      refine lam_tail I k2 k1 k3 k4 ok.tabs hfree fun f c' doc pm ctv H1 s' I1 eN gr T1 hf hc => ?_
      refine ⟨.ref f, H1, I1, rfl, q f H1 (gok_extN ok eN T1) (le_extN ok eN gr) ⟨hl _ _ h5, free, cap, c', doc, pm, ctv, .none, hf, hc, .inl ⟨by rw [hd]; rfl, rfl⟩⟩⟩
    · rename_i i j p hd
      refine PySem.W.kdv_lam (by rw [hd]; rfl) d1 ?_
      rw [hd]
      refine PySem.W.kdv_all1 (thn ((pe_int (X := X) (i := i) (j := j) (pos := p)).run pins s σ g.H (fun _ H1 => H1 = g.H) I rfl) fun u s1 ⟨v, H1, I1, r1, e1⟩ => ?_)
      subst e1
      refine PySem.W.kdv_all0 ?_
      rw [makeFunction_eq]
      simp only [List.zip_nil_right, List.filterMap_nil, List.isEmpty_nil, if_true, pure_bind, List.isEmpty_cons, Bool.false_eq_true, if_false]
      refine wpAny_bind (wpAny_newTextTuple ?_)
      have nT : g.H s1.heap.objs.size = none := I1.hok.fresh (Nat.le_refl _)
      have I2 := I1.laid (t' := s1.toks) (a := s1.heap.objs.size) (h' := s1.heap.push { cls := .type "tuple", data := .seq [u].toArray }) (o := exO s1.heap.objs.size { cls := .type "tuple", data := .seq [u].toArray }) (fun b u e => Heap.get?_push_of_some _ e) (Nat.le_refl _) (exO_ok (Heap.get?_push_size _ rfl))
      have ok2 : GOk c { g with H := upd g.H s1.heap.objs.size (exO s1.heap.objs.size { cls := .type "tuple", data := .seq [u].toArray }) } := gok_laid ok nT
      refine lam_tail I2 k2 k1 k3 k4 ok2.tabs hfree fun f c' doc pm ctv H1 s' I3 eN gr T1 hf hc => ?_
      refine ⟨.ref f, H1, I3, rfl, q f H1 (gok_extN (g := { g with H := upd g.H s1.heap.objs.size (exO s1.heap.objs.size { cls := .type "tuple", data := .seq [u].toArray }) }) ok2 eN T1) ((le_laid ok nT).trans (le_extN (g := { g with H := upd g.H s1.heap.objs.size (exO s1.heap.objs.size { cls := .type "tuple", data := .seq [u].toArray }) }) ok2 eN gr)) ⟨hl _ _ h5, free, cap, c', doc, pm, ctv, .ref s1.heap.objs.size, hf, hc, .inr ⟨by rw [hd]; simp, s1.heap.objs.size, _, [u], 0, rfl, eN _ _ upd_same (fun ps z => by unfold exO at z; cases z), rfl, by rw [hd]; rfl⟩⟩⟩
    · cases d2
  · cases h
end
end EV
end

section
set_option Elab.async false
set_option linter.all false
set_option maxRecDepth 100000
set_option maxHeartbeats 4000000
/-! EV27: a def called with lambdas -/
namespace EV
open PySem PySem.Spec PyProof.Rows L2
/-! ### the maker's cells -/
def cellsOf (env : PySem.Env) (h : PySem.Heap) : List (Addr × Obj) := env.cells.filterMap fun p => (env.cells.lookup p.1).bind fun a => (h.get? a).map fun o => (a, o)
theorem lk_mem {α : Type} : ∀ {l : List (Addr × α)} {a : Addr} {o : α}, (a, o) ∈ l → ∃ o', l.lookup a = some o'
  | (k, v) :: r, a, o, h => by
    rw [List.lookup_cons]
    cases hb : a == k with
    | true => exact ⟨_, rfl⟩
    | false =>
      rcases List.mem_cons.mp h with e | h
      · cases e
        rw [beq_self_eq_true] at hb
        cases hb
      · exact lk_mem h
theorem mem_lk {α : Type} : ∀ {l : List (Addr × α)} {a : Addr} {o : α}, l.lookup a = some o → (a, o) ∈ l
  | (k, v) :: r, a, o, h => by
    rw [List.lookup_cons] at h
    cases hb : a == k with
    | true =>
      rw [hb] at h
      have e : a = k := by simpa using hb
      cases h
      rw [e]
      exact List.mem_cons_self
    | false =>
      rw [hb] at h
      exact List.mem_cons_of_mem _ (mem_lk h)
theorem cellsOf_mem {env : PySem.Env} {h : PySem.Heap} {a : Addr} {o : Obj} (m : (a, o) ∈ cellsOf env h) : ∃ y, env.cells.lookup y = some a ∧ h.get? a = some o := by
  unfold cellsOf at m
  obtain ⟨p, hp, e⟩ := List.mem_filterMap.mp m
  rw [Option.bind_eq_some_iff] at e
  obtain ⟨b, e1, e2⟩ := e
  rw [Option.map_eq_some_iff] at e2
  obtain ⟨o', e3, e4⟩ := e2
  cases e4
  exact ⟨p.1, e1, e3⟩
theorem cellsOf_lk {env : PySem.Env} {h : PySem.Heap} {a : Addr} {o : Obj} (m : (cellsOf env h).lookup a = some o) : ∃ y, env.cells.lookup y = some a ∧ h.get? a = some o := cellsOf_mem (mem_lk m)
theorem cellsOf_has {env : PySem.Env} {h : PySem.Heap} {y : Str} {a : Addr} {o : Obj} (e : env.cells.lookup y = some a) (e2 : h.get? a = some o) : (cellsOf env h).lookup a = some o := by
  have m : (a, o) ∈ cellsOf env h := List.mem_filterMap.mpr ⟨(y, a), PySem.mem_of_lookup e, by
    show (env.cells.lookup y).bind _ = _
    rw [e]
    show (h.get? a).map _ = _
    rw [e2]; rfl⟩
  obtain ⟨o', q⟩ := lk_mem m
  obtain ⟨_, _, q2⟩ := cellsOf_lk q
  rw [e2] at q2
  cases q2
  exact q
/-- tables without the cells -/
theorem tabs_sub2 {T : List (Addr × Str)} {ts : List (Addr × Obj)} {H : Hp} {h : PySem.Heap} (t : LamX.Tabs T H) (ht : ∀ a o, ts.lookup a = some o → H a = some (exO a o) ∧ h.get? a = some o ∧ ∃ v, o.data = .cell v) : LamX.Tabs T (subX H ts) := fun p hp => by
  obtain ⟨ps, q1, q2, q3⟩ := t p hp
  have me : Me H (subX H ts) := me_sub fun a o e => (ht a o e).1
  refine ⟨ps, me _ _ q1 (fun φ z => by cases z), q2, fun pos cv hc => ?_⟩
  obtain ⟨c0, z1, z2⟩ := q3 pos cv hc
  refine ⟨c0, z1, ?_⟩
  rcases opt_cases (ts.lookup c0) with z | ⟨o, z⟩
  · rw [subX_out z]; exact z2
  · obtain ⟨e1, e2, v, e3⟩ := ht c0 o z
    rw [e1] at z2
    exfalso
    have z3 : (HO.ext fun h => h.get? c0 = some o) = LamX.CodeO c0 p.2 := Option.some.inj z2
    unfold LamX.CodeO at z3
    have z4 := HO.ext.inj z3
    have z5 := congrFun z4 h
    obtain ⟨oc, vs, t, e4, e5, _⟩ := z5.mp e2
    rw [e2] at e4
    cases e4
    rw [e3] at e5
    cases e5
/-! ### values that may be lambdas just made -/
inductive RepL (c : Glb) (X : Cx) (g : G) (loc : Loc) : Vl → V → Prop
  | v {v : Vl} {w : V} : RepV c g v w → RepL c X g loc v w
  | lam {fl : Nat} {caps : List Nat} {cs : List Vl} {f : Addr} {I : LamI} : LamAt c X g.H fl f I → I.caps = namesAt X.N caps → (namesAt X.N caps).length = caps.length → capsOf loc caps = some cs → cs.all plainV = true → RepL c X g loc (.clo fl cs) (.ref f)
inductive RepLs (c : Glb) (X : Cx) (g : G) (loc : Loc) : List Vl → List V → Prop
  | nil : RepLs c X g loc [] []
  | cons {v : Vl} {w : V} {vs : List Vl} {ws : List V} : RepL c X g loc v w → RepLs c X g loc vs ws → RepLs c X g loc (v :: vs) (w :: ws)
theorem RepL.le {c : Glb} {X : Cx} {g g' : G} {loc : Loc} {v : Vl} {w : V} (r : RepL c X g loc v w) (h : GOk c g) (l : Le g g') : RepL c X g' loc v w := by
  cases r with
  | v r => exact .v (r.le h l)
  | lam a b d e f => exact .lam (a.lw h l.lw) b d e f
def tLs (c : Glb) (X : Cx) (U : Env) (W : WX) (l : LEs) : TA := fun σ H Q => ∃ (g : G) (loc : Loc), g.H = H ∧ GOk c g ∧ LocOk c g loc σ ∧ Out c g W σ (evEs U l loc g.S) (fun vs g' => ∀ ws, RepLs c X g' loc vs ws → Q ws g'.H)
section
variable {c : Glb} {U : EV.Env} {W : WX} {X : Cx} {e : Expr} {es : List Expr} {l : LE} {ls : LEs}
theorem sl_nil : PA X [] (tLs c X U W .nil) := PA.imp pa_nil fun σ H Q => by
  rintro ⟨g, loc, rfl, ok, lo, out⟩
  simp only [evEs] at out
  exact (Out.here out ok) _ .nil
theorem sl_cons (hp : plainX e = true) (ha : PE X e (tEv c U W l)) (hs : PA X es (tLs c X U W ls)) : PA X (e :: es) (tLs c X U W (.cons l ls)) := PA.imp (pa_cons ha hs (star_cons hp)) fun σ H Q => by
  rintro ⟨g, loc, rfl, ok, lo, out⟩
  refine ⟨g, loc, rfl, ok, lo, (Out.bind out).imp fun v g1 ⟨le1, ok1, out1⟩ w rw1 => ?_⟩
  refine ⟨g1, loc, rfl, ok1, lo.le ok le1, (Out.bind out1).imp fun vs g2 ⟨le2, ok2, out2⟩ ws rws => ?_⟩
  exact (Out.here out2 ok2) _ (.cons (.v (rw1.le ok1 le2)) rws)
theorem sl_lam {fl : Nat} {caps : List Nat} {I : LamI} (hp : plainX e = true) (hI : I.caps = namesAt X.N caps) (hn : (namesAt X.N caps).length = caps.length)
    (ha : PE X e (fun σ H Q => ∃ g : G, g.H = H ∧ GOk c g ∧ ∀ f H1, GOk c ⟨g.hid, g.ρ, g.S, H1⟩ → Le g ⟨g.hid, g.ρ, g.S, H1⟩ → LamAt c X H1 fl f I → Q (.ref f) H1)) (hs : PA X es (tLs c X U W ls)) : PA X (e :: es) (tLs c X U W (.cons (.lam fl caps) ls)) := PA.imp (pa_cons ha hs (star_cons hp)) fun σ H Q => by
  rintro ⟨g, loc, rfl, ok, lo, out⟩
  simp only [evEs, evE] at out
  cases hc : capsOf loc caps with
  | none => rw [hc] at out; exact out.elim
  | some cs =>
    rw [hc] at out
    simp only [R.opt_some] at out
    by_cases hpl : cs.all plainV = true
    · rw [if_pos hpl] at out
      simp only [R.bind_ok] at out
      refine ⟨g, rfl, ok, fun f H1 ok1 le1 at1 => ?_⟩
      refine ⟨⟨g.hid, g.ρ, g.S, H1⟩, loc, rfl, ok1, lo.le ok le1, (Out.bind (Out.le out le1)).imp fun vs g2 ⟨le2, ok2, out2⟩ ws rws => ?_⟩
      exact (Out.here out2 ok2) _ (.cons (.lam (at1.lw (g := ⟨g.hid, g.ρ, g.S, H1⟩) ok1 le2.lw) hI hn hc hpl) rws)
    · rw [if_neg hpl] at out
      exact out.elim
end
/-! ### what is captured -/
theorem namesAt_le (N : List Str) : ∀ is : List Nat, (namesAt N is).length ≤ is.length
  | [] => Nat.le_refl _
  | i :: is => by
    unfold namesAt
    exact List.length_filterMap_le _ _
theorem namesAt_cons {N : List Str} {i : Nat} {is : List Nat} (h : (namesAt N (i :: is)).length = (i :: is).length) : ∃ y, N[i]? = some y ∧ namesAt N (i :: is) = y :: namesAt N is ∧ (namesAt N is).length = is.length := by
  cases hy : N[i]? with
  | none =>
    have e : namesAt N (i :: is) = namesAt N is := by unfold namesAt; rw [List.filterMap_cons, hy]
    rw [e] at h
    have := namesAt_le N is
    rw [h] at this
    simp at this
    omega
  | some y =>
    have e : namesAt N (i :: is) = y :: namesAt N is := by unfold namesAt; rw [List.filterMap_cons, hy]
    rw [e] at h
    exact ⟨y, rfl, e, by simpa using h⟩
theorem caps_vals {c : Glb} {X : Cx} {pins : List (Addr × Obj)} {σ : L2.St} {g : G} {s : Shared} {loc : Loc} (J : Inv X pins σ g.H s) (lo : LocOk c g loc σ) : ∀ {caps : List Nat} {cs : List Vl}, capsOf loc caps = some cs → cs.all plainV = true → (namesAt X.N caps).length = caps.length →
    (∀ y ∈ namesAt X.N caps, X.env.scope.names.lookup y = some .cell) → ∃ (us : List Value) (ws : List V), RepBs c g cs ws ∧ Vals ws us ∧ ws.length = caps.length ∧ ∀ (i : Nat) (y : Str), (namesAt X.N caps)[i]? = some y → ∃ (a : Addr) (u : Value), X.env.cells.lookup y = some a ∧ s.heap.IsCell a (some u) ∧ us[i]? = some u
  | [], cs, h, hp, hn, hk => by
    simp only [capsOf, Option.some.injEq] at h
    subst h
    exact ⟨[], [], .nil, .nil, rfl, fun i y e => by simp [namesAt] at e⟩
  | i :: is, cs, h, hp, hn, hk => by
    simp only [capsOf] at h
    split at h
    · rename_i v vs h1 h2
      cases h
      rw [List.all_cons, Bool.and_eq_true] at hp
      obtain ⟨y, n1, n2, n3⟩ := namesAt_cons hn
      have kc : X.env.scope.names.lookup y = some .cell := hk y (by rw [n2]; exact List.mem_cons_self)
      obtain ⟨us, ws, a1, a2, a3, a4⟩ := caps_vals J lo h2 hp.2 n3 fun z hz => hk z (by rw [n2]; exact List.mem_cons_of_mem _ hz)
      obtain ⟨w, hw, rw1⟩ := lo.at_ i v h1
      obtain ⟨m, hm, hl⟩ := J.loc
      obtain ⟨u, ru, lk⟩ := hl i y w n1 hw (.inr (.inl kc))
      have lk2 : ∃ a, X.env.cells.lookup y = some a ∧ s.heap.IsCell a (some u) := by
        rcases lk with ⟨z, _⟩ | ⟨_, z⟩
        · have z : X.env.scope.names.lookup y = some .local := z
          rw [kc] at z
          cases z
        · exact z
      obtain ⟨a, la, ia⟩ := lk2
      have rb : RepB c g v w := by
        cases rw1 with
        | d r => exact .d r
        | ref e => exact .ref e
        | fnv e => exact .fnv e
        | exn e => cases hp.1
        | clo k r => cases hp.1
        | scr a b r => cases hp.1
      refine ⟨u :: us, w :: ws, .cons rb a1, .cons ru a2, by simp [a3], fun j z hj => ?_⟩
      rw [n2] at hj
      cases j with
      | zero =>
        simp at hj
        subst hj
        exact ⟨a, u, la, ia, rfl⟩
      | succ j =>
        obtain ⟨b, u', b1, b2, b3⟩ := a4 j z (by simpa using hj)
        exact ⟨b, u', b1, b2, by simpa using b3⟩
    · cases h
/-! ### the call -/
section
variable {c : Glb} {U : EV.Env} {W : WX} {X : Cx} {pins : List (Addr × Obj)} {σ : L2.St} {s : Shared}
theorem lam_reps {g : G} {loc : Loc} {ts : List (Addr × Obj)} (I : Inv X pins σ g.H s) (ok : GOk c g) (lo : LocOk c g loc σ) (ets : ts = cellsOf X.env s.heap) (hts : ∀ a o, ts.lookup a = some o → g.H a = none) (hcell : ∀ a o, ts.lookup a = some o → ∃ v, o.data = .cell v) :
    ∀ {vs : List Vl} {ws : List V}, RepLs c X g loc vs ws → RepVs c ⟨g.hid, g.ρ, g.S, addX g.H ts⟩ vs ws
  | _, _, .nil => .nil
  | _, _, .cons r t => by
    have lw : Lw g ⟨g.hid, g.ρ, g.S, addX g.H ts⟩ := ⟨List.prefix_refl _, fun a o e nl _ => ⟨add_keep hts a o e, nl⟩⟩
    refine .cons ?_ (lam_reps I ok lo ets hts hcell t)
    cases r with
    | v r => exact r.lw ok lw
    | @lam fl caps cs f J at1 hI hn hc hp =>
      obtain ⟨c', doc, pm, ctv, dV, q1, q2, q3⟩ := at1.at_
      have hk : ∀ y ∈ namesAt X.N caps, X.env.scope.names.lookup y = some .cell := fun y hy => (at1.cap y (by rw [hI]; exact hy)).2
      obtain ⟨us, ws', a1, a2, a3, a4⟩ := caps_vals I lo hc hp hn hk
      have cm : ∀ {y a}, (cloFrom X.env.cells J.scope.names []).lookup y = some a → X.env.cells.lookup y = some a := fun {y a} e => by
        rcases cloFrom_mem (PySem.mem_of_lookup e) with hm | ⟨h1, h2⟩
        · cases hm
        · have hy := (at1.cap _ (at1.free _ h1 rfl)).2
          obtain ⟨a1, ha⟩ := I.ok.has y (.inl hy)
          have e2 : a = a1 := by rw [h2, ha] <;> rfl
          rw [e2]
          exact ha
      have look : ∀ {y}, y ∈ J.caps → ∃ a, (cloFrom X.env.cells J.scope.names []).lookup y = some a := fun {y} hl => by
        have hy : (y, NameKind.free) ∈ J.scope.names := PySem.mem_of_lookup (at1.cap y hl).1
        exact mem_lookup (cloFrom_has (cells := X.env.cells) (acc := []) hy)
      refine .clo (f := f) (c' := c') (qual := X.env.qual ++ "<lambda>") (I := J) (cells := cloFrom X.env.cells J.scope.names []) (pm := pm) (ctv := ctv) (ts := ts) (us := us) (ws := ws') ⟨at1.lam, ⟨dV, doc, add_keep hts _ _ q1, q3.imp id fun ⟨z, t, o, its, n, e1, e2, e3, e4⟩ => ⟨z, t, o, its, n, e1, add_keep hts _ _ e2, e3, e4⟩⟩, add_keep hts _ _ q2, fun a o e => addX_in e, fun i y hi => ?_, fun y a hy => ?_, fun x y a e1 e2 => I.ok.inj x y a (cm e1) (cm e2), a2, hcell, by rw [a3, hI, hn]⟩ (a1.lw ok lw)
      · rw [hI] at hi
        obtain ⟨a, u, b1, ⟨o, b2, b3⟩, b4⟩ := a4 i y hi
        obtain ⟨a', ha'⟩ := look (y := y) (by rw [hI]; exact List.mem_of_getElem? hi)
        have e := cm ha'
        rw [b1] at e
        cases e
        exact ⟨a, o, u, ha', by rw [ets]; exact cellsOf_has b1 b2, b3, b4⟩
      · have e := cm hy
        obtain ⟨v, o, b2, b3⟩ := I.cell y a e
        exact ⟨o, v, by rw [ets]; exact cellsOf_has e b2, b3⟩
theorem call_lam {f np k : Nat} {fa : Addr} {fd : FuncData} {ps : List Str} {g : G} {loc : Loc} {vs : List Vl} {ws : List V} {us : List Value} {Q : VK} (F : FnG X.prog X.w X.K X.mg X.base (L2.CX X.prog X.w) k fa fd ps (spF c U f np)) (hr : RoomG k X.A) (hb : Binds X.K fd ps []) (tk : Takes X W)
    (hcb : ∀ y a, X.env.cells.lookup y = some a → X.fn y = true) (pl : ∀ vs S v S', U.cf f vs S = .ok v S' → plainV v = true) (I : Inv X pins σ g.H s) (ok : GOk c g) (lo : LocOk c g loc σ) (rs : RepLs c X g loc vs ws) (rv : Vals ws us) (hl : vs.length = np)
    (out : Out c g W σ (U.cf f vs g.S) (fun v g' => ∀ w, RepV c g' v w → Q w g'.H)) : wpAny (model X.prog X.w) X.A (call (.ref fa) us) (EP X pins σ Q) X.xe s := by
  obtain ⟨ts, ets⟩ : ∃ ts, ts = cellsOf X.env s.heap := ⟨_, rfl⟩
  have hts : ∀ a o, ts.lookup a = some o → s.heap.get? a = some o ∧ g.H a = none ∧ a ∉ frs X.stack ∧ X.base.get? a = none ∧ ∃ v, o.data = .cell v := fun a o e => by
    rw [ets] at e
    obtain ⟨y, e1, e2⟩ := cellsOf_lk e
    obtain ⟨v, o', e3, e4⟩ := I.cell y a e1
    rw [e2] at e3
    cases e3
    have big := I.ok.cab y a (hcb y a e1) e1
    refine ⟨e2, I.freeC y a e1, fun m => ?_, Heap.get?_none_of_le (Nat.le_trans I.ok.bsz big), v, e4⟩
    rcases List.mem_cons.mp (I.stkSub a m) with z | z
    · exact I.cne y a e1 z
    · obtain ⟨_, o2, ho2, _⟩ := I.ok.funs.mem z
      exact absurd (Nat.lt_of_lt_of_le (Heap.lt_size ho2) big) (Nat.lt_irrefl _)
  have hn : ∀ a o, ts.lookup a = some o → g.H a = none := fun a o e => (hts a o e).2.1
  have ok2 : GOk c ⟨g.hid, g.ρ, g.S, addX g.H ts⟩ := gok_me ok (me_add hn) (tabs_add ok.tabs hn)
  have rv2 := lam_reps I ok lo ets hn (fun a o e => (hts a o e).2.2.2.2) rs
  have e0 := I.env0
  have bs1 : ∀ b o, X.base.get? b = some o → s.heap.get? b = some o ∧ addX g.H ts b = none := fun b o z => by
    obtain ⟨q1, q2⟩ := e0.bs b o z
    refine ⟨q1, ?_⟩
    rcases opt_cases (ts.lookup b) with k | ⟨p, k⟩
    · rw [addX_out k]; exact q2
    · rw [(hts b p k).2.2.2.1] at z; cases z
  have frf1 : ∀ b ∈ frs X.stack, addX g.H ts b = none := fun b z => by
    rcases opt_cases (ts.lookup b) with k | ⟨p, k⟩
    · rw [addX_out k]; exact e0.frf b z
    · exact absurd z (hts b p k).2.2.1
  have e1 : Env0 X.prog X.w X.K X.mg X.base X.A X.stack s (addX g.H ts) := ⟨e0.frames, e0.mod, bs1, e0.bsz, e0.funs, frf1, hok_add e0.hok fun a o e => ⟨(hts a o e).1, hn a o e⟩, e0.bare⟩
  have back : ∀ {ρ' : List Addr} {S' : Sto} {H' : Hp}, GOk c ⟨g.hid, ρ', S', H'⟩ → Le ⟨g.hid, g.ρ, g.S, addX g.H ts⟩ ⟨g.hid, ρ', S', H'⟩ → (∀ a o, ts.lookup a = some o → H' a = some (exO a o)) ∧ GOk c ⟨g.hid, ρ', S', subX H' ts⟩ ∧ Le g ⟨g.hid, ρ', S', subX H' ts⟩ := fun {ρ' S' H'} ok' le' => by
    have trk : ∀ a o, ts.lookup a = some o → H' a = some (exO a o) := fun a o e => ext_keep ok2 le'.lw (addX_in e)
    have out_ : ∀ a, g.H a ≠ none → ts.lookup a = none := fun a h => by
      rcases opt_cases (ts.lookup a) with k | ⟨p, k⟩
      · exact k
      · exact absurd (hn a p k) h
    refine ⟨trk, gok_me ok' (me_sub trk) (tabs_sub2 (h := s.heap) ok'.tabs fun a o e => ⟨trk a o e, (hts a o e).1, (hts a o e).2.2.2.2⟩), le'.pre, rfl, fun a ha => ?_, fun a o e nl nt => ?_, fun a e => ?_⟩
    · have k := out_ a (ok.hidn ha)
      show subX H' ts a = g.H a
      rw [subX_out k]
      have q := le'.hidk a ha
      rw [show (⟨g.hid, ρ', S', H'⟩ : G).H a = H' a from rfl, show (⟨g.hid, g.ρ, g.S, addX g.H ts⟩ : G).H a = addX g.H ts a from rfl, addX_out k] at q
      exact q
    · have k := out_ a (by rw [e]; simp)
      obtain ⟨q1, q2⟩ := le'.keep a o (add_keep hn a o e) nl nt
      exact ⟨by show subX H' ts a = _; rw [subX_out k]; exact q1, q2⟩
    · have k := out_ a e
      show subX H' ts a ≠ none
      rw [subX_out k]
      exact le'.grow a (by show addX g.H ts a ≠ none; rw [addX_out k]; exact e)
  have sp : spF c U f np ws (addX g.H ts) (fun v H' => (∀ a o, ts.lookup a = some o → H' a = some (exO a o)) ∧ Q v (subX H' ts)) (fun cls d H' => (∀ a o, ts.lookup a = some o → H' a = some (exO a o)) ∧ W cls d σ (subX H' ts)) := by
    refine ⟨⟨g.hid, g.ρ, g.S, addX g.H ts⟩, vs, rfl, ok2, rv2, hl, ?_⟩
    show Out c ⟨g.hid, g.ρ, g.S, addX g.H ts⟩ _ [] (U.cf f vs g.S) _
    cases hcf : U.cf f vs g.S with
    | ok v S' =>
      rw [hcf] at out
      intro ρ' H' ok' le' w rw1
      obtain ⟨trk, ok3, le3⟩ := back ok' le'
      refine ⟨trk, out ρ' (subX H' ts) ok3 le3 w ?_⟩
      have hp := pl _ _ _ _ hcf
      cases rw1 with
      | d r => exact .d (Rep.me (me_sub trk) _ _ r)
      | ref e => exact .ref e
      | fnv e => exact .fnv e
      | exn e => cases hp
      | clo k r => cases hp
      | scr a b r => cases hp
    | exc n xs S' =>
      rw [hcf] at out
      intro ρ' H' d ok' le' ex
      obtain ⟨trk, ok3, le3⟩ := back ok' le'
      obtain ⟨cls, h1, h2⟩ := out ρ' (subX H' ts) d ok3 le3 ex
      exact ⟨cls, h1, trk, h2⟩
    | stuck => rw [hcf] at out; exact out.elim
  have hbs := hb s us I.kIn (by rw [List.append_nil, ← rv.length]; exact F.len _ _ _ _ sp)
  rw [List.append_nil] at hbs
  refine wpAny_call (codeAny_mono (F.run X.A X.stack s (addX g.H ts) ⟨us, []⟩ us ws (fun v H' => (∀ a o, ts.lookup a = some o → H' a = some (exO a o)) ∧ Q v (subX H' ts)) (fun cls d H' => (∀ a o, ts.lookup a = some o → H' a = some (exO a o)) ∧ W cls d σ (subX H' ts)) hr e1 hbs rv sp) fun r s' hq0 => ?_)
  have hq := cr_sub (Q := Q) (E := fun cls d H' => W cls d σ H') hq0 (fun a o e => ⟨(hts a o e).1, hn a o e, (hts a o e).2.2.1⟩) (fun v H' h => h) (fun cls d H' h => h)
  cases r with
  | error e => exact passAt tk σ pins g.H s e s' I hq
  | ok fl =>
    cases fl with
    | ret u => exact I.after hq
    | next => exact False.elim hq
    | brk => exact False.elim hq
    | cont => exact False.elim hq
theorem se_callL {f np k : Nat} {fa : Addr} {fd : FuncData} {ps : List Str} {x : String} {p pos : Pos} {e : Expr} {es : List Expr} {ls : LEs} (F : FnG X.prog X.w X.K X.mg X.base (L2.CX X.prog X.w) k fa fd ps (spF c U f np)) (hr : RoomG k X.A) (hg : Gl X x) (hm : X.mg x = some (.ref fa)) (hk : PySem.W.keepIn X.K (.ref fa) = true) (hb : Binds X.K fd ps [])
    (tk : Takes X W) (hes : (e :: es).all plainX = true) (hn : lenEs ls = np) (hcb : ∀ y a, X.env.cells.lookup y = some a → X.fn y = true) (pl : ∀ vs S v S', U.cf f vs S = .ok v S' → plainV v = true) (ha : PA X (e :: es) (tLs c X U W ls)) (hdb : ((x : Str) == ("__debug__" : Str)) = false) : PE X (.Call (.Name x p) (e :: es) [] pos) (tEv c U W (.call f x ls)) := by
  rw [List.all_cons, Bool.and_eq_true] at hes
  refine ⟨fun pins s σ H Q I h => ?_⟩
  obtain ⟨g, loc, rfl, ok, lo, out⟩ := h
  refine wpAny_Call_Name_kw (ld_glob I hg hm ?_ hdb)
  have ht : tLs c X U W ls σ g.H (fun ws H1 => ∃ (g1 : G) (vs : List Vl), g1.H = H1 ∧ GOk c g1 ∧ LocOk c g1 loc σ ∧ RepLs c X g1 loc vs ws ∧ vs.length = np ∧ Out c g1 W σ (U.cf f vs g1.S) (fun v g' => ∀ w, RepV c g' v w → Q w g'.H)) := by
    refine ⟨g, loc, rfl, ok, lo, Out.imp' (Out.bind out) fun vs g1 eq ⟨le1, ok1, out1⟩ ws rws => ?_⟩
    exact ⟨g1, vs, rfl, ok1, lo.le ok le1, rws, by rw [evEs_len eq, hn], out1⟩
  refine PySem.W.callWith_K (h₀ := X.base) I.ok.mod.kin hk (thn (ha.run pos pins s σ _ _ I ht) fun us s1 ⟨ws, H1, I1, r, q⟩ => ⟨I1.kIn, ?_⟩) (star_cons hes.1) (star_any hes.2 _)
  obtain ⟨g1, vs, rfl, ok1, lo1, rs, hl, out1⟩ := q
  exact call_lam F hr hb tk hcb pl I1 ok1 lo1 rs r hl out1
end
end EV
end

section
set_option Elab.async false
set_option linter.all false
set_option maxRecDepth 100000
set_option maxHeartbeats 4000000
/-! EV16: what the reader of expressions says is so -/
namespace EV
open PySem PySem.Spec PyProof.Rows L2
section
variable {c : Glb} {U : EV.Env} {W : WX} {X : Cx} {a b d e : Expr} {la lb ld l : LE} {pos : Pos}
theorem st_chain {o p : Cm} (hK : X.K = c.K) (hu : X.A.units + 200 < cLine) (ha : PE X a (tEv c U W la)) (hb : PE X b (tEv c U W lb)) (hd : PE X d (tEv c U W ld)) (hm2 : behindInMarks (cmOf p) d = false) :
    PT X (.Compare a [cmOf o, cmOf p] [b, d] pos) (tTv c U W (.chain o p la lb ld)) := PT.imp (pt_chain (cmrD hu o) (cmrD hu p) ha hb hd hm2) fun σ H Q => by
  rintro ⟨g, loc, rfl, ok, lo, out⟩
  refine ⟨g, loc, rfl, ok, lo, (Out.bind out).imp fun v g1 ⟨le1, ok1, out1⟩ w rw1 => ?_⟩
  refine ⟨g1, loc, rfl, ok1, lo.le ok le1, (Out.bind out1).imp fun v2 g2 ⟨le2, ok2, out2⟩ w2 rw2 => ?_⟩
  obtain ⟨k, hk, q⟩ := Out.opt out2
  rw [hK]
  refine cmV_ok ok2 (rw1.le ok1 le2) rw2 hk ⟨k, rfl, ?_⟩
  cases k with
  | true =>
    refine ⟨g2, loc, rfl, ok2, (lo.le ok le1).le ok1 le2, (Out.bind q).imp fun v3 g3 ⟨le3, ok3, out3⟩ w3 rw3 => ?_⟩
    obtain ⟨m, hm, q3⟩ := Out.opt out3
    obtain ⟨b', hb', q4⟩ := Out.here q3 ok3
    cases hb'
    exact cmV_ok ok3 (rw2.le ok2 le3) rw3 hm ⟨_, rfl, q4⟩
  | false =>
    obtain ⟨b', hb', q4⟩ := Out.here q ok2
    cases hb'
    exact ⟨_, rfl, q4⟩
/-- a list that is not changed any more -/
theorem se_frz (h : PE X e (tEv c U W l)) : PE X e (tEv c U W (.frz l)) := PE.imp h fun σ H Q => by
  rintro ⟨g, loc, rfl, ok, lo, out⟩
  refine ⟨g, loc, rfl, ok, lo, (Out.bind out).imp fun v g1 ⟨le1, ok1, out1⟩ w rw1 => ?_⟩
  obtain ⟨p, hp, q⟩ := Out.opt out1
  obtain ⟨ok2, le2, r2⟩ := take_ok ok1 rw1 hp
  exact q _ _ ok2 le2 w (.d r2)
theorem tst_ok (h : tstX e = true) (he : PE X e (tEv c U W l)) : PT X e (tTv c U W l) := st_val he (by cases e <;> first | (intro _; rfl) | cases h)
theorem set_ok {e : Expr} {env : PySem.Env} (h : plainX e = true) (x : Value) : foldedSetIterable e env x = pure x := by
  cases e <;> first | rfl | cases h
def Sound (c : Glb) (U : EV.Env) (X : Cx) (l : LE) (m : Nat) (e : Expr) : Prop := ∀ W : WX, Takes X W →
  (m = 0 → PE X e (tEv c U W l)) ∧
  (m = 1 → PE X e (tEvN c U W l) ∧ ∀ (elt : Expr) (gs : List Comprehension) (scope : Scope) (cp : Pos), e = .ListComp elt gs scope cp → ∀ (i : Nat) (y : Str) (py spos : Pos), X.N[i]? = some y → X.env.scope.names.lookup y = some .local → swapsWith e (some (.Name y py)) spos.line X.env = pure true →
    PS X (.Assign [.Name y py] e spos) (tAsg (tEvN c U W l) (gName i))) ∧
  (m = 2 → PT X e (tTv c U W l) ∧ ∀ (op : BoolOp) (vs : List Expr) (bp : Pos), e = .BoolOp op vs bp → PW X e (tTv c U W l))
/-- by new values, for a form that is no comprehension -/
theorem snd_n {m : Nat} (hm : (m == 0 || m == 1) = true) (hp : plainC e = true) (hd : ∀ loc S v S', evE U l loc S = .ok v S' → ∃ z, v = .d z) (h : ∀ W, Takes X W → PE X e (tEvN c U W l)) : Sound c U X l m e := fun W tk => by
  refine ⟨fun _ => pe_froz (h W tk) hd, fun _ => ⟨h W tk, fun elt gs scope cp e' => by subst e'; cases hp⟩, fun z => ?_⟩
  subst z
  cases hm
theorem snd_nt {m : Nat} (hp : plainC e = true) (ht : tstX e = true) (hd : ∀ loc S v S', evE U l loc S = .ok v S' → ∃ z, v = .d z) (h : ∀ W, Takes X W → PE X e (tEvN c U W l)) : Sound c U X l m e := fun W tk => by
  refine ⟨fun _ => pe_froz (h W tk) hd, fun _ => ⟨h W tk, fun elt gs scope cp e' => by subst e'; cases hp⟩, fun _ => ⟨tst_ok ht (pe_froz (h W tk) hd), fun op vs bp e' => by subst e'; cases ht⟩⟩
theorem snd_v {m : Nat} (hm : (m == 0) = true) (h : ∀ W, Takes X W → PE X e (tEv c U W l)) : Sound c U X l m e := fun W tk => by
  have e0 : m = 0 := by simpa using hm
  subst e0
  exact ⟨fun _ => h W tk, (fun z => absurd z (by decide)), (fun z => absurd z (by decide))⟩
theorem snd_vt {m : Nat} (hm : (m == 0 || m == 2) = true) (ht : tstX e = true) (h : ∀ W, Takes X W → PE X e (tEv c U W l)) : Sound c U X l m e := fun W tk => by
  refine ⟨fun _ => h W tk, fun z => ?_, fun _ => ⟨tst_ok ht (h W tk), fun op vs bp e' => by subst e'; cases ht⟩⟩
  subst z
  cases hm
end
/-! ### new values are data -/
section
variable {U : EV.Env}
theorem bind_ok {α β : Type} {r : R α} {f : α → Sto → R β} {b : β} {S' : Sto} (h : r.bind f = .ok b S') : ∃ a S1, r = .ok a S1 ∧ f a S1 = .ok b S' := by
  cases r with
  | ok a S1 => exact ⟨a, S1, rfl, h⟩
  | exc => cases h
  | stuck => cases h
theorem opt_ok {α β : Type} {o : Option α} {f : α → R β} {b : β} {S' : Sto} (h : R.opt o f = .ok b S') : ∃ a, o = some a ∧ f a = .ok b S' := by
  cases o with
  | none => cases h
  | some a => exact ⟨a, rfl, h⟩
theorem hd_tup {es : LEs} : ∀ loc S v S', evE U (.tup es) loc S = .ok v S' → ∃ z, v = .d z := fun loc S v S' h => by
  simp only [evE] at h
  obtain ⟨a, S1, _, h⟩ := bind_ok h
  obtain ⟨p, _, h⟩ := opt_ok h
  cases h
  exact ⟨_, rfl⟩
theorem hd_lst {es : LEs} : ∀ loc S v S', evE U (.lst es) loc S = .ok v S' → ∃ z, v = .d z := fun loc S v S' h => by
  simp only [evE] at h
  obtain ⟨a, S1, _, h⟩ := bind_ok h
  obtain ⟨p, _, h⟩ := opt_ok h
  cases h
  exact ⟨_, rfl⟩
theorem hd_slc {a : LE} {p q : LO} : ∀ loc S v S', evE U (.slc a p q) loc S = .ok v S' → ∃ z, v = .d z := fun loc S v S' h => by
  simp only [evE] at h
  obtain ⟨x, S1, _, h⟩ := bind_ok h
  obtain ⟨y, S2, _, h⟩ := bind_ok h
  obtain ⟨z, S3, _, h⟩ := bind_ok h
  unfold slcV at h
  split at h
  · cases h; exact ⟨_, rfl⟩
  · obtain ⟨p, _, h⟩ := opt_ok h
    cases h
    exact ⟨_, rfl⟩
theorem hd_rev {a : LE} : ∀ loc S v S', evE U (.rev a) loc S = .ok v S' → ∃ z, v = .d z := fun loc S v S' h => by
  simp only [evE] at h
  obtain ⟨x, S1, _, h⟩ := bind_ok h
  split at h
  · obtain ⟨p, _, h⟩ := opt_ok h
    cases h
    exact ⟨_, rfl⟩
  · cases h
theorem hd_bi {b : Bi} {es : LEs} : ∀ loc S v S', evE U (.bi b es) loc S = .ok v S' → ∃ z, v = .d z := fun loc S v S' h => by
  simp only [evE] at h
  obtain ⟨a, S1, _, h⟩ := bind_ok h
  obtain ⟨p, _, h⟩ := opt_ok h
  cases h
  exact ⟨_, rfl⟩
theorem hd_lzip {a b : LE} : ∀ loc S v S', evE U (.lzip a b) loc S = .ok v S' → ∃ z, v = .d z := fun loc S v S' h => by
  simp only [evE] at h
  obtain ⟨x, S1, _, h⟩ := bind_ok h
  obtain ⟨y, S2, _, h⟩ := bind_ok h
  split at h
  · cases h; exact ⟨_, rfl⟩
  · cases h
theorem hd_comp {e : LE} {g : LI} {t : LT} {c : LO} {own : List Nat} : ∀ loc S v S', evE U (.comp e g t c own) loc S = .ok v S' → ∃ z, v = .d z := fun loc S v S' h => by
  simp only [evE] at h
  obtain ⟨a, S1, _, h⟩ := bind_ok h
  obtain ⟨a, S1, _, h⟩ := bind_ok h
  cases h
  exact ⟨_, rfl⟩
end
theorem lit_ok {c : Glb} {U : EV.Env} {W : WX} {X : Cx} {d : D} {k : Const} {j : Nat} {pos : Pos} (h : okLit d k = true) : PE X (.Constant k j pos) (tEv c U W (.lit d)) := by
  unfold okLit at h
  split at h
  · exact se_const pe_non fun _ _ => .non
  · rw [beq_iff_eq] at h; subst h; exact se_const pe_bl fun _ _ => .bl _
  · rw [decide_eq_true_eq] at h; subst h; exact se_const pe_int fun _ _ => .int _
  · simp only [Bool.and_eq_true, decide_eq_true_eq, List.all_eq_true] at h
    obtain ⟨h1, h2⟩ := h
    subst h1
    exact se_const pe_str fun _ _ => .str h2
  · cases h
theorem str_eq {x y : Str} (h : (x == y) = true) : x = y := by simpa using h
section
variable {c : Glb} {P : Program} {w : World} {mg : Str → Option Value} {base : PySem.Heap} {k : Nat} {N : List Str} {Γ : Sg} {U : EV.Env}
theorem nm_ok {ws sc : Scope} {X : Cx} (g : XG c P w mg base k N Γ ws sc X) {i : Nat} {x : Str} (h : nmB N sc i x = true) : X.N[i]? = some x ∧ Vis X.env.scope x ∧ (x == ("__debug__" : Str)) = false ∧ (x == ("__classdict__" : Str)) = false := by
  unfold nmB at h
  simp only [Bool.and_eq_true, decide_eq_true_eq] at h
  obtain ⟨⟨⟨h1, h2⟩, h3⟩, h4⟩ := h
  exact ⟨g.at_ h1, g.vis h2, bnot h3, bnot h4⟩
theorem fn_at (S : SgOk c P w mg base k Γ U) {ws sc : Scope} {X : Cx} (g : XG c P w mg base k N Γ ws sc X) {f : Nat} {x : String} {n : Nat} (h : Γ.fns[f]? = some (x, n)) :
    ∃ (fa : Addr) (fd : FuncData) (ps : List Str), FnG X.prog X.w X.K X.mg X.base (L2.CX X.prog X.w) k fa fd ps (spF c U f n) ∧ X.mg (x : Str) = some (.ref fa) ∧ PySem.W.keepIn X.K (.ref fa) = true ∧ Binds X.K fd ps [] ∧ c.fa f = some fa := by
  obtain ⟨fa, fd, ps, F, hm, hk, hb, hf⟩ := S.fn f x n h
  refine ⟨fa, fd, ps, ?_, ?_, ?_, ?_, hf⟩
  · rw [g.prog, g.w, g.K, g.mg, g.base]; exact F
  · rw [g.mg]; exact hm
  · rw [g.K]; exact hk
  · rw [g.K]; exact hb
theorem glob_ok (S : SgOk c P w mg base k Γ U) {ws sc : Scope} {X : Cx} (g : XG c P w mg base k N Γ ws sc X) {x : String} {v : Vl} {p : Pos} {W : WX} (h1 : glB sc (x : Str) = true) (h2 : (!dbg (x : Str)) = true) (h3 : gvB Γ x v = true) : PE X (.Name (x : Str) p) (tEv c U W (.glob x v)) := by
  unfold gvB at h3
  split at h3
  · rw [List.any_eq_true] at h3
    obtain ⟨⟨x', d'⟩, hp, hq⟩ := h3
    rw [Bool.and_eq_true, beq_iff_eq] at hq
    obtain ⟨q1, q2⟩ := hq
    have q1 : x' = x := q1
    have q2 := sameD_eq _ _ q2
    have q2 : d' = _ := q2
    subst q1
    subst q2
    obtain ⟨u, v, hm, r, rr⟩ := S.gv _ _ hp
    exact se_glob (pe_glob (g.gl h1) (by rw [g.mg]; exact hm) r (bnot h2)) fun g' => .d (rr _ _)
  · cases hf : Γ.fns[‹Nat›]? with
    | none => rw [hf] at h3; cases h3
    | some p =>
      obtain ⟨x', n⟩ := p
      rw [hf] at h3
      have e : x' = x := by simpa using h3
      subst e
      obtain ⟨fa, fd, ps, F, hm, hk, hb, hc⟩ := fn_at S g hf
      exact se_glob (pe_glob (v := .ref fa) (g.gl h1) hm rfl (bnot h2)) fun g' => .fnv hc
  · cases h3
theorem pe_callN {X : Cx} {i : Nat} {x : Str} {p pos : Pos} {e : Expr} {es : List Expr} {t : TA} {R : Addr → List V → Hp → VK → L2.St → Prop}
    (hc : ∀ (pins : List (Addr × Obj)) (s : Shared) (σ : L2.St) (H : Hp) (vs : List V) (us : List Value) (a : Addr) (Q : VK), Inv X pins σ H s → Vals vs us → R a vs H Q σ → PySem.W.FnAt a s.heap ∧ wpAny (model X.prog X.w) X.A (call (.ref a) us) (EP X pins σ Q) X.xe s)
    (hN : X.N[i]? = some x) (hv : Vis X.env.scope x) (hes : (e :: es).all plainX = true) (ha : PA X (e :: es) t) (hdb : (x == ("__debug__" : Str)) = false) (hcd : (x == ("__classdict__" : Str)) = false) :
    PE X (.Call (.Name x p) (e :: es) [] pos) (fun σ H Q => ∃ a, σ[i]? = some (some (.ref a)) ∧ (∃ oc od fd sl, H a = some (exO a ⟨oc, od, .func fd, sl⟩)) ∧ t σ H fun vs H1 => R a vs H1 Q σ) := by
  rw [List.all_cons, Bool.and_eq_true] at hes
  refine ⟨fun pins s σ H Q I h => ?_⟩
  obtain ⟨a, hs, ⟨oc, od, fd, sl, hat⟩, ht⟩ := h
  refine wpAny_Call_Name_kw (thn ((pe_var (pos := p) hN hv hdb hcd).run pins s σ H (fun v H1 => v = .ref a ∧ H1 = H) I ⟨.ref a, hs, rfl, rfl⟩) fun u s1 ⟨v, H1, I1, r1, q1⟩ => ?_)
  obtain ⟨rfl, rfl⟩ := q1
  cases r1
  have of1 := (I1.hok a _ hat).1
  exact PySem.W.callWith_F ⟨_, _, _, _, of1⟩ (thn (ha.run pos pins s1 σ _ _ I1 ht) fun us s2 ⟨vs, H2, I2, r, q⟩ => hc _ _ _ _ _ _ _ _ I2 r q) (star_cons hes.1) (star_any hes.2 _)
theorem pe_callG0 {X : Cx} {i : Nat} {x : Str} {p pos : Pos} {R : Addr → List V → Hp → VK → L2.St → Prop}
    (hc : ∀ (pins : List (Addr × Obj)) (s : Shared) (σ : L2.St) (H : Hp) (vs : List V) (us : List Value) (a : Addr) (Q : VK), Inv X pins σ H s → Vals vs us → R a vs H Q σ → PySem.W.FnAt a s.heap ∧ wpAny (model X.prog X.w) X.A (call (.ref a) us) (EP X pins σ Q) X.xe s)
    (hN : X.N[i]? = some x) (hv : Vis X.env.scope x) (hdb : (x == ("__debug__" : Str)) = false) (hcd : (x == ("__classdict__" : Str)) = false) :
    PE X (.Call (.Name x p) [] [] pos) (fun σ H Q => ∃ a, σ[i]? = some (some (.ref a)) ∧ (∃ oc od fd sl, H a = some (exO a ⟨oc, od, .func fd, sl⟩)) ∧ R a [] H Q σ) := by
  refine ⟨fun pins s σ H Q I h => ?_⟩
  obtain ⟨a, hs, ⟨oc, od, fd, sl, hat⟩, ht⟩ := h
  refine wpAny_Call_Name_kw (thn ((pe_var (pos := p) hN hv hdb hcd).run pins s σ H (fun v H1 => v = .ref a ∧ H1 = H) I ⟨.ref a, hs, rfl, rfl⟩) fun u s1 ⟨v, H1, I1, r1, q1⟩ => ?_)
  obtain ⟨rfl, rfl⟩ := q1
  cases r1
  obtain ⟨f1, f2⟩ := hc _ _ _ _ _ _ _ _ I1 .nil ht
  exact PySem.W.callWith_F0 f1 f2
theorem repBs_of {c : Glb} {g : G} : ∀ {vs : List Vl} {ws : List V}, RepVs c g vs ws → vs.all plainV = true → RepBs c g vs ws
  | _, _, .nil, _ => .nil
  | _, _, .cons r t, h => by
    rw [List.all_cons, Bool.and_eq_true] at h
    refine .cons ?_ (repBs_of t h.2)
    cases r with
    | d r => exact .d r
    | ref e => exact .ref e
    | fnv e => exact .fnv e
    | exn e => cases h.1
    | clo k r => cases h.1
    | scr a b r => cases h.1
/-- what a closure's call wants -/
def CloR (c : Glb) (U : EV.Env) (W : WX) (a : Addr) (vs : List V) (H : Hp) (Q : VK) (σ : L2.St) : Prop :=
  ∃ (g : G) (fl : Nat) (cs ds : List Vl), g.H = H ∧ GOk c g ∧ RepV c g (.clo fl cs) (.ref a) ∧ RepBs c g ds vs ∧ Out c g W σ (U.cf fl (cs ++ ds) g.S) (fun v g' => ∀ w, RepV c g' v w → Q w g'.H)
theorem clo_call (S : SgOk c P w mg base k Γ U) {ws sc : Scope} {X : Cx} (g : XG c P w mg base k N Γ ws sc X) (hh : Γ.hot = false) {W : WX} (tk : Takes X W) (pins : List (Addr × Obj)) (s : Shared) (σ : L2.St) (H : Hp) (vs : List V) (us : List Value) (a : Addr) (Q : VK)
    (I : Inv X pins σ H s) (rv : Vals vs us) (h : CloR c U W a vs H Q σ) : PySem.W.FnAt a s.heap ∧ wpAny (model X.prog X.w) X.A (call (.ref a) us) (EP X pins σ Q) X.xe s := by
  obtain ⟨g0, fl, cs, ds, rfl, ok, rc, rd, out⟩ := h
  have L : LamOk c X.prog X.w X.mg X.base k U.cf := by rw [g.prog, g.w, g.mg, g.base]; exact S.lam
  have e0 := I.env0
  rw [g.K] at e0
  cases rc with
  | clo C rb =>
    obtain ⟨dV, doc, fo, _⟩ := C.fo
    refine ⟨⟨_, _, _, _, (I.hok a _ fo).1⟩, ?_⟩
    refine wpAny_call (codeAny_mono (L fl _ g0 cs ds a _ _ _ _ _ _ _ us _ vs X.A X.stack s Q (WE W σ) ok C rb rd rv (g.room hh) e0 out) fun r s' hq => ?_)
    cases r with
    | error e => exact passAt tk σ pins g0.H s e s' I hq
    | ok fl =>
      cases fl with
      | ret u => exact I.after hq
      | next => exact False.elim hq
      | brk => exact False.elim hq
      | cont => exact False.elim hq
theorem callv_ok (S : SgOk c P w mg base k Γ U) {ws sc : Scope} {X : Cx} (g : XG c P w mg base k N Γ ws sc X) (hh : Γ.hot = false) {W : WX} (tk : Takes X W) {i : Nat} {y : Str} {p pos : Pos} {a : Expr} {as : List Expr} {es : LEs} (h1 : nmB N sc i y = true) (h2 : (a :: as).all plainX = true) (ha : PA X (a :: as) (tEvs c U W es)) :
    PE X (.Call (.Name y p) (a :: as) [] pos) (tEv c U W (.callv i es)) := by
  obtain ⟨q1, q2, q3, q4⟩ := nm_ok g h1
  refine PE.imp (PE.or (pe_callD (AV := fun f a => c.fa f = some a) (sp := fun f vs H Q E => ∃ x n, Γ.fns[f]? = some (x, n) ∧ spF c U f n vs H Q E) tk (fun f a hf => ?_) q1 q2 h2 ha q3 q4) (pe_callN (R := CloR c U W) (clo_call S g hh tk) q1 q2 h2 ha q3 q4)) fun σ H Q => ?_
  · obtain ⟨⟨x, n⟩, hx⟩ := S.fa f a hf
    obtain ⟨fa, fd, ps, F, hm, hk, hb, hc⟩ := fn_at S g hx
    rw [hf] at hc
    cases hc
    exact ⟨k, fd, ps, F.imp fun vs H Q E ⟨x', n', e, q⟩ => by rw [hx] at e; cases e; exact q, g.room hh, hk, hb⟩
  · rintro ⟨g0, loc, rfl, ok, lo, out⟩
    have out : Out c g0 W σ (match loc[i]? with
      | some (some (.fnv f)) => (evEs U es loc g0.S).bind fun vs S1 => U.cf f vs S1
      | some (some (.clo f cs)) => (evEs U es loc g0.S).bind fun vs S1 => if vs.all plainV then U.cf f (cs ++ vs) S1 else .stuck
      | _ => .stuck) _ := out
    split at out
    · rename_i f hf
      left
      obtain ⟨w, hw, rw1⟩ := lo.at_ _ _ hf
      cases rw1 with
      | @fnv _ fa hfa =>
        refine ⟨f, fa, hw, hfa, g0, loc, rfl, ok, lo, (Out.bind out).imp fun vs g1 ⟨le1, ok1, out1⟩ ws rws => ?_⟩
        obtain ⟨⟨x, n⟩, hx⟩ := S.fa f fa hfa
        refine ⟨x, n, hx, g1, vs, rfl, ok1, rws, ?_, out1⟩
        by_cases hn : vs.length = n
        · exact hn
        · rw [S.ar f x n vs _ hx hn] at out1
          exact out1.elim
    · rename_i f cs hf
      right
      obtain ⟨w, hw, rw1⟩ := lo.at_ _ _ hf
      have rw2 := rw1
      cases rw1 with
      | @clo _ _ fa _ _ _ _ _ _ _ _ _ C rb =>
        refine ⟨fa, hw, (let ⟨_, _, fo, _⟩ := C.fo; ⟨_, _, _, _, fo⟩), g0, loc, rfl, ok, lo, (Out.bind out).imp fun vs g1 ⟨le1, ok1, out1⟩ ws rws => ?_⟩
        split at out1
        · rename_i hp
          exact ⟨g1, f, cs, vs, rfl, ok1, rw2.le ok le1, repBs_of rws hp, out1⟩
        · exact out1.elim
    · exact out.elim
theorem callv0_ok (S : SgOk c P w mg base k Γ U) {ws sc : Scope} {X : Cx} (g : XG c P w mg base k N Γ ws sc X) (hh : Γ.hot = false) {W : WX} (tk : Takes X W) {i : Nat} {y : Str} {p pos : Pos} (h1 : nmB N sc i y = true) (hz : Γ.fns.all (fun p => p.2 != 0) = true) :
    PE X (.Call (.Name y p) [] [] pos) (tEv c U W (.callv i .nil)) := by
  obtain ⟨q1, q2, q3, q4⟩ := nm_ok g h1
  refine PE.imp (pe_callG0 (R := CloR c U W) (clo_call S g hh tk) q1 q2 q3 q4) fun σ H Q => ?_
  rintro ⟨g0, loc, rfl, ok, lo, out⟩
  have out : Out c g0 W σ (match loc[i]? with
      | some (some (.fnv f)) => U.cf f [] g0.S
      | some (some (.clo f cs)) => U.cf f (cs ++ []) g0.S
      | _ => .stuck) (fun v g' => ∀ w, RepV c g' v w → Q w g'.H) := by
    have out : Out c g0 W σ (match loc[i]? with
      | some (some (.fnv f)) => (evEs U .nil loc g0.S).bind fun vs S1 => U.cf f vs S1
      | some (some (.clo f cs)) => (evEs U .nil loc g0.S).bind fun vs S1 => if vs.all plainV then U.cf f (cs ++ vs) S1 else .stuck
      | _ => .stuck) (fun v g' => ∀ w, RepV c g' v w → Q w g'.H) := out
    simpa only [evEs, R.bind_ok, List.all_nil, if_true] using out
  split at out
  · rename_i f hf
    obtain ⟨w, hw, rw1⟩ := lo.at_ _ _ hf
    cases rw1 with
    | @fnv _ fa hfa =>
      obtain ⟨⟨x, n⟩, hx⟩ := S.fa f fa hfa
      have hn : n ≠ 0 := by
        rw [List.all_eq_true] at hz
        simpa using hz _ (List.mem_of_getElem? hx)
      rw [S.ar f x n [] _ hx (by simpa using Ne.symm hn)] at out
      exact out.elim
  · rename_i f cs hf
    obtain ⟨w, hw, rw1⟩ := lo.at_ _ _ hf
    have rw2 := rw1
    cases rw1 with
    | @clo _ _ fa _ _ _ _ _ _ _ _ _ C rb => exact ⟨fa, hw, (let ⟨_, _, fo, _⟩ := C.fo; ⟨_, _, _, _, fo⟩), g0, f, cs, [], rfl, ok, rw2, .nil, out⟩
  · exact out.elim
theorem isx_ok (S : SgOk c P w mg base k Γ U) {ws sc : Scope} {X : Cx} (g : XG c P w mg base k N Γ ws sc X) {W : WX} {i ci : Nat} {x : String} {z : Str} {p p2 p3 pos : Pos} (h3 : nmB N sc i z = true) (h4 : glB sc "isinstance" = true) (h5 : glB sc (x : Str) = true) (h6 : (!dbg (x : Str)) = true) (h7 : Γ.blt.contains "isinstance" = true) (h8 : Γ.cls[ci]? = some x) :
    PE X (.Call (.Name "isinstance" p) [.Name z p2, .Name (x : Str) p3] [] pos) (tEv c U W (.isx i x ci)) := by
  obtain ⟨q1, q2, q3, q4⟩ := nm_ok g h3
  obtain ⟨cv, v, hca, rv, hun, hn⟩ := S.cl ci x h8
  have hx : PE X (.Name (x : Str) p3) (tC v) := by
    rcases hn with hn | ⟨hn, hb, hne⟩
    · exact pe_glob (g.gl h5) (by rw [g.mg]; exact hn) rv (bnot h6)
    · exact pe_bltn (g.gl h5) (by rw [g.mg]; exact hn) hb rv hne (bnot h6)
  have ha : PA X [.Name z p2, .Name (x : Str) p3] (tCons (tVar i) (tCons (tC v) tNil)) := pa_cons (pe_var q1 q2 q3 q4) (pa_cons hx pa_nil)
  by_cases hex : ∃ a j, c.ex = some (a, j)
  · obtain ⟨a, j, hex⟩ := hex
    obtain ⟨D, hD, hcr⟩ := g.isE a j hex
    refine PE.imp (pe_callB hcr (g.gl h4) (S.none g h7) (by decide +kernel) ha (by decide) (by decide) rfl rfl) fun σ H Q => ?_
    rintro ⟨g0, loc, rfl, ok, lo, out⟩
    have out : Out c g0 W σ (match loc[i]? with
      | some (some (.exn k _)) => R.opt (U.sub k ci) fun b => R.ok (Vl.d (.bl b)) g0.S
      | _ => .stuck) _ := out
    split at out
    · rename_i k' xs hl
      obtain ⟨w0, hw, rw0⟩ := lo.at_ _ _ hl
      cases rw0 with
      | exn e =>
        rw [hex] at e
        cases e
        obtain ⟨b, hb, o2⟩ := Out.opt out
        obtain ⟨D', cv', d1, d2, d3, d4, d5⟩ := S.sb _ _ _ hb
        rw [hD] at d1
        cases d1
        rw [hca] at d2
        cases d2
        refine ⟨_, hw, v, cv, b, rfl, hun, by rw [g.K]; exact d4, (Out.here o2 ok) _ (.d (.bl b))⟩
    · exact out.elim
  · refine ⟨fun pins s σ H Q I h => ?_⟩
    exfalso
    obtain ⟨g0, loc, rfl, ok, lo, out⟩ := h
    have out : Out c g0 W σ (match loc[i]? with
      | some (some (.exn k _)) => R.opt (U.sub k ci) fun b => R.ok (Vl.d (.bl b)) g0.S
      | _ => .stuck) _ := out
    split at out
    · rename_i k' xs hl
      obtain ⟨w0, hw, rw0⟩ := lo.at_ _ _ hl
      cases rw0 with
      | exn e => exact hex ⟨_, _, e⟩
    · exact out.elim
/-- a lambda stands in its maker's own scope -/
theorem lamB_mn {fl : Nat} {caps : List Nat} {sc : Scope} {e : Expr} (h : lamB Γ N fl caps sc e = true) : Γ.mn ≠ [] ∧ sc.names = Γ.mn := by
  unfold lamB at h
  split at h
  · simp only [Bool.and_eq_true, decide_eq_true_eq] at h
    obtain ⟨⟨⟨⟨⟨⟨h1, h2⟩, h3⟩, h4⟩, h5⟩, h6⟩, h7⟩ := h
    exact ⟨(fun z => by rw [z] at h1; cases h1), h2⟩
  · cases h
theorem okAs_mn : ∀ (ls : LEs) (sc : Scope) (es : List Expr), okAs Γ N ls sc es = true → someLam ls = true → Γ.mn ≠ [] ∧ sc.names = Γ.mn
  | .nil, sc, es, h, hs => by cases hs
  | .cons l ls, sc, es, h, hs => by
    cases l with
    | lam fl caps =>
      simp only [okAs] at h
      split at h
      · simp only [Bool.and_eq_true] at h
        exact lamB_mn h.1.2
      · cases h
    | _ =>
      simp only [okAs] at h
      split at h
      · simp only [Bool.and_eq_true] at h
        exact okAs_mn ls sc _ h.2 hs
      · cases h
/-! ### all of it -/
mutual
theorem ok_snd (S : SgOk c P w mg base k Γ U) : ∀ (l : LE) (m : Nat) (ws sc : Scope) (e : Expr) (X : Cx), XG c P w mg base k N Γ ws sc X → ok Γ N l m sc e = true → Sound c U X l m e
  | .lit d, m, ws, sc, e, X, g, h => by
    simp only [ok, Bool.and_eq_true] at h
    obtain ⟨hm, h⟩ := h
    split at h
    · exact snd_v hm fun W tk => lit_ok h
    · cases h
  | .var i, m, ws, sc, e, X, g, h => by
    simp only [ok, Bool.and_eq_true] at h
    obtain ⟨hm, h⟩ := h
    split at h
    · obtain ⟨q1, q2, q3, q4⟩ := nm_ok g h
      exact snd_vt hm rfl fun W tk => se_var (pe_var q1 q2 q3 q4)
    · cases h
  | .glob x v, m, ws, sc, e, X, g, h => by
    simp only [ok, Bool.and_eq_true] at h
    obtain ⟨hm, h⟩ := h
    split at h
    · simp only [Bool.and_eq_true] at h
      obtain ⟨⟨⟨h1, h2⟩, h3⟩, h4⟩ := h
      have e1 := str_eq h1
      subst e1
      exact snd_v hm fun W tk => glob_ok S g h2 h3 h4
    · cases h
  | .op o a b, m, ws, sc, e, X, g, h => by
    simp only [ok, Bool.and_eq_true] at h
    obtain ⟨hm, h⟩ := h
    split at h
    · simp only [Bool.and_eq_true, decide_eq_true_eq] at h
      obtain ⟨⟨h1, h2⟩, h3⟩ := h
      subst h1
      exact snd_n hm rfl hd_op fun W tk => se_op g.K ((ok_snd S a 0 ws sc _ X g h2 W tk).1 rfl) ((ok_snd S b 0 ws sc _ X g h3 W tk).1 rfl)
    · cases h
  | .neg a, m, ws, sc, e, X, g, h => by
    simp only [ok, Bool.and_eq_true] at h
    obtain ⟨hm, h⟩ := h
    split at h
    · simp only [Bool.and_eq_true, decide_eq_true_eq] at h
      obtain ⟨h1, h2⟩ := h
      subst h1
      exact snd_v hm fun W tk => se_neg ((ok_snd S a 0 ws sc _ X g h2 W tk).1 rfl)
    · cases h
  | .not a, m, ws, sc, e, X, g, h => by
    simp only [ok, Bool.and_eq_true] at h
    obtain ⟨hm, h⟩ := h
    split at h
    · simp only [Bool.and_eq_true, decide_eq_true_eq] at h
      obtain ⟨h1, h2⟩ := h
      subst h1
      refine fun W tk => ⟨fun z => ?_, fun z => ?_, fun z => ?_⟩
      · subst z; exact se_not ((ok_snd S a 0 ws sc _ X g h2 W tk).1 rfl)
      · subst z; cases hm
      · subst z; exact ⟨st_not ((ok_snd S a 2 ws sc _ X g h2 W tk).2.2 rfl).1, fun op vs bp e' => by cases e'⟩
    · cases h
  | .and a b, m, ws, sc, e, X, g, h => by
    simp only [ok, Bool.and_eq_true] at h
    obtain ⟨hm, h⟩ := h
    split at h
    · simp only [Bool.and_eq_true, decide_eq_true_eq] at h
      obtain ⟨⟨h1, h2⟩, h3⟩ := h
      subst h1
      refine fun W tk => ⟨fun z => ?_, fun z => ?_, fun z => ?_⟩
      · subst z; exact se_and ((ok_snd S a 0 ws sc _ X g h2 W tk).1 rfl) (pe_one ((ok_snd S b 0 ws sc _ X g h3 W tk).1 rfl))
      · subst z; cases hm
      · subst z
        have q := fun p : Pos => sw_and (pos := p) ((ok_snd S a 2 ws sc _ X g h2 W tk).2.2 rfl).1 (pw_and1 ((ok_snd S b 2 ws sc _ X g h3 W tk).2.2 rfl).1)
        exact ⟨(q _).pt, fun op vs bp e' => by cases e'; exact q _⟩
    · simp only [Bool.and_eq_true, decide_eq_true_eq] at h
      obtain ⟨⟨h1, h2⟩, h3⟩ := h
      subst h1
      refine fun W tk => ⟨fun z => ?_, fun z => ?_, fun z => ?_⟩
      · subst z; exact se_and ((ok_snd S a 0 ws sc _ X g h2 W tk).1 rfl) ((ok_snd S b 0 ws sc _ X g h3 W tk).1 rfl)
      · subst z; cases hm
      · subst z
        have q := sw_and ((ok_snd S a 2 ws sc _ X g h2 W tk).2.2 rfl).1 (((ok_snd S b 2 ws sc _ X g h3 W tk).2.2 rfl).2 _ _ _ rfl)
        exact ⟨q.pt, fun op vs bp e' => by cases e'; exact q⟩
    · cases h
  | .or a b, m, ws, sc, e, X, g, h => by
    simp only [ok, Bool.and_eq_true] at h
    obtain ⟨hm, h⟩ := h
    split at h
    · simp only [Bool.and_eq_true, decide_eq_true_eq] at h
      obtain ⟨⟨h1, h2⟩, h3⟩ := h
      subst h1
      refine fun W tk => ⟨fun z => ?_, fun z => ?_, fun z => ?_⟩
      · subst z; exact se_or ((ok_snd S a 0 ws sc _ X g h2 W tk).1 rfl) (pe_one ((ok_snd S b 0 ws sc _ X g h3 W tk).1 rfl))
      · subst z; cases hm
      · subst z
        have q := fun p : Pos => sw_or (pos := p) ((ok_snd S a 2 ws sc _ X g h2 W tk).2.2 rfl).1 (pw_or1 ((ok_snd S b 2 ws sc _ X g h3 W tk).2.2 rfl).1)
        exact ⟨(q _).pt, fun op vs bp e' => by cases e'; exact q _⟩
    · simp only [Bool.and_eq_true, decide_eq_true_eq] at h
      obtain ⟨⟨h1, h2⟩, h3⟩ := h
      subst h1
      refine fun W tk => ⟨fun z => ?_, fun z => ?_, fun z => ?_⟩
      · subst z; exact se_or ((ok_snd S a 0 ws sc _ X g h2 W tk).1 rfl) ((ok_snd S b 0 ws sc _ X g h3 W tk).1 rfl)
      · subst z; cases hm
      · subst z
        have q := sw_or ((ok_snd S a 2 ws sc _ X g h2 W tk).2.2 rfl).1 (((ok_snd S b 2 ws sc _ X g h3 W tk).2.2 rfl).2 _ _ _ rfl)
        exact ⟨q.pt, fun op vs bp e' => by cases e'; exact q⟩
    · cases h
  | .cmp o a b, m, ws, sc, e, X, g, h => by
    simp only [ok, Bool.and_eq_true] at h
    obtain ⟨hm, h⟩ := h
    split at h
    · simp only [Bool.and_eq_true, decide_eq_true_eq] at h
      obtain ⟨⟨⟨h1, h2⟩, h3⟩, h4⟩ := h
      subst h1
      refine fun W tk => ⟨fun z => ?_, fun z => ?_, fun z => ?_⟩
      · exact se_cmp g.K g.hu ((ok_snd S a 0 ws sc _ X g h3 W tk).1 rfl) ((ok_snd S b 0 ws sc _ X g h4 W tk).1 rfl) (nomark_ok h2)
      · subst z; cases hm
      · exact ⟨st_cmp g.K g.hu ((ok_snd S a 0 ws sc _ X g h3 W tk).1 rfl) ((ok_snd S b 0 ws sc _ X g h4 W tk).1 rfl) (nomark_ok h2), fun op vs bp e' => by cases e'⟩
    · cases h
  | .chain o p a b d, m, ws, sc, e, X, g, h => by
    simp only [ok, Bool.and_eq_true] at h
    obtain ⟨hm, h⟩ := h
    split at h
    · simp only [Bool.and_eq_true, decide_eq_true_eq] at h
      obtain ⟨⟨⟨⟨⟨h1, h2⟩, h3⟩, h4⟩, h5⟩, h6⟩ := h
      subst h1
      subst h2
      refine fun W tk => ⟨fun z => ?_, fun z => ?_, fun z => ?_⟩
      · exact se_chain g.K g.hu ((ok_snd S a 0 ws sc _ X g h4 W tk).1 rfl) ((ok_snd S b 0 ws sc _ X g h5 W tk).1 rfl) ((ok_snd S d 0 ws sc _ X g h6 W tk).1 rfl) (nomark_ok h3)
      · subst z; cases hm
      · exact ⟨st_chain g.K g.hu ((ok_snd S a 0 ws sc _ X g h4 W tk).1 rfl) ((ok_snd S b 0 ws sc _ X g h5 W tk).1 rfl) ((ok_snd S d 0 ws sc _ X g h6 W tk).1 rfl) (nomark_ok h3), fun op vs bp e' => by cases e'⟩
    · cases h
  | .ife d a b, m, ws, sc, e, X, g, h => by
    simp only [ok, Bool.and_eq_true] at h
    obtain ⟨hm, h⟩ := h
    split at h
    · simp only [Bool.and_eq_true] at h
      obtain ⟨⟨h1, h2⟩, h3⟩ := h
      exact snd_v hm fun W tk => se_ife ((ok_snd S d 2 ws sc _ X g h1 W tk).2.2 rfl).1 ((ok_snd S a 0 ws sc _ X g h2 W tk).1 rfl) ((ok_snd S b 0 ws sc _ X g h3 W tk).1 rfl)
    · cases h
  | .tup es, m, ws, sc, e, X, g, h => by
    simp only [ok, Bool.and_eq_true] at h
    obtain ⟨hm, h⟩ := h
    split at h
    · simp only [Bool.and_eq_true, decide_eq_true_eq] at h
      exact snd_n hm rfl hd_tup fun W tk => se_tup h.1 (okEs_snd S es ws sc _ X g h.2 W tk)
    · cases h
  | .lst es, m, ws, sc, e, X, g, h => by
    simp only [ok, Bool.and_eq_true] at h
    obtain ⟨hm, h⟩ := h
    split at h
    · simp only [Bool.and_eq_true, decide_eq_true_eq] at h
      exact snd_n hm rfl hd_lst fun W tk => se_lst h.1 (okEs_snd S es ws sc _ X g h.2 W tk)
    · cases h
  | .thaw a, m, ws, sc, e, X, g, h => by
    simp only [ok, Bool.and_eq_true] at h
    obtain ⟨hm, h⟩ := h
    exact snd_v hm fun W tk => pe_thaw ((ok_snd S a 1 ws sc _ X g h W tk).2.1 rfl).1
  | .frz a, m, ws, sc, e, X, g, h => by
    simp only [ok, Bool.and_eq_true] at h
    obtain ⟨hm, h⟩ := h
    exact snd_v hm fun W tk => se_frz ((ok_snd S a 0 ws sc _ X g h W tk).1 rfl)
  | .idx a i, m, ws, sc, e, X, g, h => by
    simp only [ok, Bool.and_eq_true] at h
    obtain ⟨hm, h⟩ := h
    split at h
    · simp only [Bool.and_eq_true] at h
      obtain ⟨⟨h1, h2⟩, h3⟩ := h
      exact snd_vt hm rfl fun W tk => se_idx g.K g.hu h1 ((ok_snd S a 0 ws sc _ X g h2 W tk).1 rfl) ((ok_snd S i 0 ws sc _ X g h3 W tk).1 rfl)
    · cases h
  | .slc a lo hi, m, ws, sc, e, X, g, h => by
    simp only [ok, Bool.and_eq_true] at h
    obtain ⟨hm, h⟩ := h
    split at h
    · simp only [Bool.and_eq_true] at h
      obtain ⟨⟨h1, h2⟩, h3⟩ := h
      exact snd_n hm rfl hd_slc fun W tk => se_slc g.K ((ok_snd S a 0 ws sc _ X g h1 W tk).1 rfl) (okO_snd S lo ws sc _ X g h2 W tk) (okO_snd S hi ws sc _ X g h3 W tk)
    · cases h
  | .rev a, m, ws, sc, e, X, g, h => by
    simp only [ok, Bool.and_eq_true] at h
    obtain ⟨hm, h⟩ := h
    split at h
    · simp only [Bool.and_eq_true, decide_eq_true_eq] at h
      obtain ⟨⟨h1, h2⟩, h3⟩ := h
      subst h1
      subst h2
      exact snd_n hm rfl hd_rev fun W tk => se_rev g.K ((ok_snd S a 0 ws sc _ X g h3 W tk).1 rfl)
    · cases h
  | .call f x es, m, ws, sc, e, X, g, h => by
    simp only [ok, Bool.and_eq_true] at h
    obtain ⟨hm, h⟩ := h
    split at h
    · simp only [Bool.and_eq_true] at h
      obtain ⟨⟨⟨⟨⟨⟨h0, h1⟩, h2⟩, h3⟩, h4⟩, h5⟩, h6⟩ := h
      have e1 := str_eq h1
      subst e1
      unfold fnB at h4
      cases hf : Γ.fns[f]? with
      | none => rw [hf] at h4; cases h4
      | some p =>
        obtain ⟨x', n⟩ := p
        rw [hf] at h4
        have h4 : (x' == x && n == lenEs es) = true := h4
        rw [Bool.and_eq_true, beq_iff_eq, beq_iff_eq] at h4
        obtain ⟨q1, q2⟩ := h4
        subst q1
        obtain ⟨fa, fd, ps, F, hmm, hk, hb, hc⟩ := fn_at S g hf
        split at h6
        · rename_i hsl
          have hmn : Γ.mn ≠ [] ∧ sc.names = Γ.mn := okAs_mn es sc _ h6 hsl
          exact snd_vt hm rfl fun W tk => se_callL F (g.room (bnot h0)) (g.gl h2) hmm hk hb tk h5 q2.symm (g.mkr hmn.1 hmn.2).2 (fun vs S0 v S' e => S.pl f vs S0 v S' e) (okAs_snd S es ws sc _ X g h6 W tk) (bnot h3)
        · exact snd_vt hm rfl fun W tk => se_call F (g.room (bnot h0)) (g.gl h2) hmm hk hb tk h5 q2.symm (okEs_snd S es ws sc _ X g h6 W tk) (bnot h3)
    · cases h
  | .callv i es, m, ws, sc, e, X, g, h => by
    simp only [ok, Bool.and_eq_true] at h
    obtain ⟨hm, h⟩ := h
    split at h
    · simp only [Bool.and_eq_true] at h
      obtain ⟨⟨⟨h0, h1⟩, h2⟩, h3⟩ := h
      exact snd_vt hm rfl fun W tk => callv_ok S g (bnot h0) tk h1 h2 (okEs_snd S es ws sc _ X g h3 W tk)
    · simp only [Bool.and_eq_true] at h
      obtain ⟨⟨⟨h0, h1⟩, h2⟩, h3⟩ := h
      cases es with
      | nil => exact snd_vt hm rfl fun W tk => callv0_ok S g (bnot h0) tk h1 h3
      | cons e es => cases h2
    · cases h
  | .bi b es, m, ws, sc, e, X, g, h => by
    simp only [ok, Bool.and_eq_true] at h
    obtain ⟨hm, h⟩ := h
    split at h
    · simp only [Bool.and_eq_true] at h
      obtain ⟨⟨⟨⟨⟨h0, h1⟩, h2⟩, h3⟩, h4⟩, h5⟩ := h
      have e1 := str_eq h1
      subst e1
      exact snd_nt rfl rfl hd_bi fun W tk => se_bi (g.calm (bnot h0)) g.hu g.gd g.K (g.gl h2) (S.none g h3) h4 (okEs_snd S es ws sc _ X g h5 W tk)
    · cases h
  | .mt mm o es, m, ws, sc, e, X, g, h => by
    simp only [ok, Bool.and_eq_true] at h
    obtain ⟨hm, h⟩ := h
    split at h
    · simp only [Bool.and_eq_true, decide_eq_true_eq] at h
      obtain ⟨⟨⟨⟨⟨⟨h1, h2⟩, h3⟩, h4⟩, h5⟩, h6⟩, h7⟩ := h
      have e1 := str_eq h1
      subst e1
      refine snd_vt hm rfl fun W tk => ?_
      have q := okEs_snd S es ws sc _ X g h7 W tk
      rename_i as cpos
      cases as with
      | nil =>
        have e2 : es = .nil := by
          cases es with
          | nil => rfl
          | cons _ _ => simp only [okEs] at h7; cases h7
        subst e2
        exact se_mt0 g.K g.hu ((ok_snd S o 0 ws sc _ X g h6 W tk).1 rfl) h2 h5
      | cons a as => exact se_mt g.K g.hu ((ok_snd S o 0 ws sc _ X g h6 W tk).1 rfl) q h2 h3 h4 h5
    · cases h
  | .isi a t, m, ws, sc, e, X, g, h => by
    simp only [ok, Bool.and_eq_true] at h
    obtain ⟨hm, h⟩ := h
    split at h
    · simp only [Bool.and_eq_true] at h
      obtain ⟨⟨⟨⟨⟨⟨⟨h1, h2⟩, h3⟩, h4⟩, h5⟩, h6⟩, h7⟩, h8⟩ := h
      have e1 := str_eq h1
      subst e1
      have e2 := str_eq h2
      subst e2
      exact snd_vt hm rfl fun W tk => se_isi g.K (g.gl h3) (S.none g h5) (g.gl h4) (S.none g h6) h7 ((ok_snd S a 0 ws sc _ X g h8 W tk).1 rfl)
    · cases h
  | .isx i x ci, m, ws, sc, e, X, g, h => by
    simp only [ok, Bool.and_eq_true] at h
    obtain ⟨hm, h⟩ := h
    split at h
    · simp only [Bool.and_eq_true, decide_eq_true_eq] at h
      obtain ⟨⟨⟨⟨⟨⟨⟨⟨h0, h1⟩, h2⟩, h3⟩, h4⟩, h5⟩, h6⟩, h7⟩, h8⟩ := h
      have e1 := str_eq h1
      subst e1
      have e2 := str_eq h2
      subst e2
      exact snd_vt hm rfl fun W tk => isx_ok S g h3 h4 h5 h6 h7 h8
    · cases h
  | .comp elt gi t cn own, m, ws, sc, e, X, g, h => by
    simp only [ok, Bool.and_eq_true] at h
    obtain ⟨hm, h⟩ := h
    split at h
    · rename_i eelt tg iter ifs kk scope cp
      simp only [Bool.and_eq_true, decide_eq_true_eq] at h
      obtain ⟨⟨⟨⟨⟨⟨⟨⟨⟨⟨h0, h1⟩, h2⟩, hmn⟩, h3⟩, h4⟩, h5⟩, h6⟩, h7⟩, h8⟩, h9⟩ := h
      subst h1
      have hh := bnot h0
      have hown : ∀ i ∈ slotsT t, i ∈ (ownN N own).map Prod.snd := fun i hi => by
        rw [h4]
        rw [List.all_eq_true] at h5
        simpa using h5 i hi
      have key : ∀ W, Takes X W → _ := fun W tk => se_comp (c := c) (U := U) (W := W) (own := ownN N own) (pos := cp) (le := elt) (t := t) (lc := cn) (g.calm hh) g.ndN (okI_snd S gi ws sc tg iter X g h6 W tk) (by rw [g.eN, g.eS]; exact blkOk_by h3) hown
        (fun s H C cl fp => okG_ok (g.blk hh s H scope hmn C cl fp) t tg h7) (fun s H C cl fp => okC_snd S cn scope (relS scope sc) ifs _ (g.blk hh s H scope hmn C cl fp) h8 F0 takes0)
        (fun s H C cl fp => (ok_snd S elt 0 scope (relS scope sc) eelt _ (g.blk hh s H scope hmn C cl fp) h9 F0 takes0).1 rfl) (fun x => set_ok h2 x)
      rw [h4] at key
      refine fun W tk => ⟨fun _ => pe_froz (key W tk).1 hd_comp, fun _ => ⟨(key W tk).1, fun elt gs scope cp e' => ?_⟩, fun z => ?_⟩
      · exact fun i y py spos q1 q2 q3 => (key W tk).2 i y py spos q1 q2 q3
      · subst z; cases hm
    · cases h
  | .dct es, m, ws, sc, e, X, g, h => by
    simp only [ok, Bool.and_eq_true] at h
    obtain ⟨hm, h⟩ := h
    split at h
    · rename_i ks vs dp
      simp only [Bool.and_eq_true, decide_eq_true_eq] at h
      obtain ⟨⟨⟨h1, h2⟩, h3⟩, h4⟩ := h
      refine snd_v hm fun W tk => ?_
      cases ks with
      | nil =>
        cases vs with
        | nil =>
          cases es with
          | nil => exact se_dct0
          | cons l ls => cases ls <;> (simp only [okPs] at h4; cases h4)
        | cons v vs => cases h1
      | cons k ks => exact se_dct g.hu (okPs_snd S es ws sc (k :: ks) vs X dp g h4 W tk).1 (okPs_snd S es ws sc (k :: ks) vs X dp g h4 W tk).2 h1 (by simp) h2 h3
    · cases h
  | .lzip a b, m, ws, sc, e, X, g, h => by
    simp only [ok, Bool.and_eq_true] at h
    obtain ⟨hm, h⟩ := h
    split at h
    · simp only [Bool.and_eq_true] at h
      obtain ⟨⟨⟨⟨⟨⟨⟨⟨⟨⟨h0, h1⟩, h2⟩, h3⟩, h4⟩, h5⟩, h6⟩, h7⟩, h8⟩, h9⟩, h10⟩ := h
      have e1 := str_eq h1
      have e2 := str_eq h2
      subst e1
      subst e2
      exact snd_nt rfl rfl hd_lzip fun W tk => se_lzip g.K (g.calm (bnot h0)) (g.gl h3) (S.none g h5) (g.gl h4) (S.none g h6) ((ok_snd S a 0 ws sc _ X g h9 W tk).1 rfl) ((ok_snd S b 0 ws sc _ X g h10 W tk).1 rfl) h7 h8
    · cases h
  | .dcomp _ _ _ _ _, m, ws, sc, e, X, g, h => by simp only [ok] at h; cases h
  | .lam _ _, m, ws, sc, e, X, g, h => by simp only [ok] at h; cases h
theorem okEs_snd (S : SgOk c P w mg base k Γ U) : ∀ (ls : LEs) (ws sc : Scope) (es : List Expr) (X : Cx), XG c P w mg base k N Γ ws sc X → okEs Γ N ls sc es = true → ∀ W, Takes X W → PA X es (tEvs c U W ls)
  | .nil, ws, sc, es, X, g, h => by
    simp only [okEs, List.isEmpty_iff] at h
    subst h
    exact fun W tk => sa_nil
  | .cons l ls, ws, sc, es, X, g, h => by
    simp only [okEs] at h
    split at h
    · simp only [Bool.and_eq_true] at h
      obtain ⟨⟨h1, h2⟩, h3⟩ := h
      exact fun W tk => sa_cons h1 ((ok_snd S l 0 ws sc _ X g h2 W tk).1 rfl) (okEs_snd S ls ws sc _ X g h3 W tk)
    · cases h
theorem okAs_snd (S : SgOk c P w mg base k Γ U) : ∀ (ls : LEs) (ws sc : Scope) (es : List Expr) (X : Cx), XG c P w mg base k N Γ ws sc X → okAs Γ N ls sc es = true → ∀ W, Takes X W → PA X es (tLs c X U W ls)
  | .nil, ws, sc, es, X, g, h => by
    simp only [okAs, List.isEmpty_iff] at h
    subst h
    exact fun W tk => sl_nil
  | .cons l ls, ws, sc, es, X, g, h => by
    by_cases hl : ∃ fl caps, l = .lam fl caps
    · obtain ⟨fl, caps, rfl⟩ := hl
      simp only [okAs] at h
      split at h
      · simp only [Bool.and_eq_true] at h
        obtain ⟨⟨h1, h2⟩, h3⟩ := h
        intro W tk
        obtain ⟨I, hI, hp⟩ := pe_lam h2 g.eS g.mkr S.lmk
        have hn : (namesAt N caps).length = caps.length := by
          unfold lamB at h2
          split at h2
          · simp only [Bool.and_eq_true, decide_eq_true_eq] at h2
            exact h2.1.1.1.1.2
          · cases h2
        exact sl_lam h1 (by rw [g.eN]; exact hI) (by rw [g.eN]; exact hn) hp (okAs_snd S ls ws sc _ X g h3 W tk)
      · cases h
    · cases es with
      | nil => exfalso; cases l <;> first | (exact hl ⟨_, _, rfl⟩) | (simp only [okAs] at h; cases h)
      | cons e es =>
        have h' : (plainX e && ok Γ N l 0 sc e && okAs Γ N ls sc es) = true := by
          cases l <;> first | (exact absurd ⟨_, _, rfl⟩ hl) | (simp only [okAs] at h; exact h)
        simp only [Bool.and_eq_true] at h'
        obtain ⟨⟨h1, h2⟩, h3⟩ := h'
        exact fun W tk => sl_cons h1 ((ok_snd S l 0 ws sc _ X g h2 W tk).1 rfl) (okAs_snd S ls ws sc _ X g h3 W tk)
theorem okPs_snd (S : SgOk c P w mg base k Γ U) : ∀ (ls : LEs) (ws sc : Scope) (ks : List (Option Expr)) (vs : List Expr) (X : Cx) (dp : Pos), XG c P w mg base k N Γ ws sc X → okPs Γ N ls sc ks vs = true → ∀ W, Takes X W → SD c U W X dp ls ks vs ∧ ks.all (·.isSome) = true
  | .nil, ws, sc, ks, vs, X, dp, g, h => by
    simp only [okPs, Bool.and_eq_true, List.isEmpty_iff] at h
    obtain ⟨h1, h2⟩ := h
    subst h1
    subst h2
    exact fun W tk => ⟨sd_nil, rfl⟩
  | .cons l (.cons l2 ls), ws, sc, ks, vs, X, dp, g, h => by
    simp only [okPs] at h
    split at h
    · simp only [Bool.and_eq_true] at h
      obtain ⟨⟨h1, h2⟩, h3⟩ := h
      intro W tk
      have q := okPs_snd S ls ws sc _ _ X dp g h3 W tk
      exact ⟨sd_cons ((ok_snd S l 0 ws sc _ X g h1 W tk).1 rfl) ((ok_snd S l2 0 ws sc _ X g h2 W tk).1 rfl) q.1, by rw [List.all_cons, q.2]; rfl⟩
    · cases h
  | .cons _ .nil, ws, sc, ks, vs, X, dp, g, h => by simp only [okPs] at h; cases h
theorem okO_snd (S : SgOk c P w mg base k Γ U) : ∀ (l : LO) (ws sc : Scope) (e : Option Expr) (X : Cx), XG c P w mg base k N Γ ws sc X → okO Γ N l sc e = true → ∀ W, Takes X W → PO X e (tOv c U W l)
  | .no, ws, sc, e, X, g, h => by
    simp only [okO, Option.isNone_iff_eq_none] at h
    subst h
    exact fun W tk => so_no
  | .yes l, ws, sc, e, X, g, h => by
    simp only [okO] at h
    split at h
    · exact fun W tk => so_yes ((ok_snd S l 0 ws sc _ X g h W tk).1 rfl)
    · cases h
theorem okC_snd (S : SgOk c P w mg base k Γ U) : ∀ (l : LO) (ws sc : Scope) (es : List Expr) (X : Cx), XG c P w mg base k N Γ ws sc X → okC Γ N l sc es = true → ∀ W, Takes X W → PTs X es (tCv c U W l)
  | .no, ws, sc, es, X, g, h => by
    simp only [okC, List.isEmpty_iff] at h
    subst h
    exact fun W tk => sc_no
  | .yes l, ws, sc, es, X, g, h => by
    simp only [okC] at h
    split at h
    · exact fun W tk => sc_yes ((ok_snd S l 2 ws sc _ X g h W tk).2.2 rfl).1
    · cases h
theorem okI_snd (S : SgOk c P w mg base k Γ U) : ∀ (l : LI) (ws sc : Scope) (tg e : Expr) (X : Cx), XG c P w mg base k N Γ ws sc X → okI Γ N l sc tg e = true → ∀ W, Takes X W → PI X tg e (tIv c U W l)
  | .val l, ws, sc, tg, e, X, g, h => by
    simp only [okI] at h
    exact fun W tk => si_val g.K ((ok_snd S l 0 ws sc _ X g h W tk).1 rfl)
  | .rng1 a, ws, sc, tg, e, X, g, h => by
    simp only [okI] at h
    split at h
    · simp only [Bool.and_eq_true] at h
      obtain ⟨⟨⟨⟨h1, h2⟩, h3⟩, h4⟩, h5⟩ := h
      have e1 := str_eq h1
      subst e1
      exact fun W tk => si_rng1 (g.gl h2) (S.none g h3) h4 ((ok_snd S a 0 ws sc _ X g h5 W tk).1 rfl)
    · cases h
  | .rng2 a b, ws, sc, tg, e, X, g, h => by
    simp only [okI] at h
    split at h
    · simp only [Bool.and_eq_true] at h
      obtain ⟨⟨⟨⟨⟨⟨h1, h2⟩, h3⟩, h4⟩, h5⟩, h6⟩, h7⟩ := h
      have e1 := str_eq h1
      subst e1
      exact fun W tk => si_rng2 (g.gl h2) (S.none g h3) h4 h5 ((ok_snd S a 0 ws sc _ X g h6 W tk).1 rfl) ((ok_snd S b 0 ws sc _ X g h7 W tk).1 rfl)
    · cases h
  | .zip a b, ws, sc, tg, e, X, g, h => by
    simp only [okI] at h
    split at h
    · simp only [Bool.and_eq_true] at h
      obtain ⟨⟨⟨⟨⟨⟨h1, h2⟩, h3⟩, h4⟩, h5⟩, h6⟩, h7⟩ := h
      have e1 := str_eq h1
      subst e1
      exact fun W tk => si_zip g.K (g.gl h2) (S.none g h3) h4 h5 ((ok_snd S a 0 ws sc _ X g h6 W tk).1 rfl) ((ok_snd S b 0 ws sc _ X g h7 W tk).1 rfl)
    · cases h
  | .enm a, ws, sc, tg, e, X, g, h => by
    simp only [okI] at h
    split at h
    · simp only [Bool.and_eq_true] at h
      obtain ⟨⟨⟨⟨h1, h2⟩, h3⟩, h4⟩, h5⟩ := h
      have e1 := str_eq h1
      subst e1
      exact fun W tk => si_enm g.K (g.gl h2) (S.none g h3) h4 ((ok_snd S a 0 ws sc _ X g h5 W tk).1 rfl)
    · cases h
end
end
end EV
end

section
set_option Elab.async false
set_option linter.all false
set_option maxRecDepth 100000
set_option maxHeartbeats 4000000
/-! EV17: statements read; defs -/
namespace EV
open PySem PySem.Spec PyProof.Rows L2
def starX : Expr → Bool
  | .Starred .. => true
  | _ => false
theorem swp2 {x y : Str} {px py pt pt2 : Pos} {kt k2 : Nat} {a b : Expr} {env : PySem.Env} (hk : env.scope.kind = .function) (hx : env.scope.names.lookup x = some .local) (hy : env.scope.names.lookup y = some .local) (hl : py.line = px.line) (hne : x ≠ y)
    (sa : plainX a = true) (sb : plainX b = true) (hf : (foldedForSure 8 a && foldedForSure 8 b) = false) (hc : (constantsAlone 8 a && constantsAlone 8 b) = false) :
    swappedStores [.Tuple [.Name x px, .Name y py] kt pt] (.Tuple [a, b] k2 pt2) env = pure (some [x, y]) := by
  have hb : env.blockKind = .function := by unfold PySem.Env.blockKind; rw [hk]; rfl
  have kx : env.kindOf x = some .local := hx
  have ky : env.kindOf y = some .local := hy
  have s1 : ∀ e : Expr, plainX e = true → (match e with | .Starred .. => true | _ => false) = false := fun e h => by cases e <;> first | rfl | cases h
  have yx : (y == x) = false := by simpa using hne.symm
  have ed : [x, y].eraseDups = [x, y] := by simp [List.eraseDups, List.eraseDupsBy, List.eraseDupsBy.loop, yx]
  unfold swappedStores
  simp [hb, kx, ky, Expr.pos, hl, s1 a sa, s1 b sb, ed, hf, hc]
  intro z
  exfalso
  rcases z with z | z
  · split at z
    · cases sa
    · cases z
  · split at z
    · cases sb
    · cases z
theorem swp3 {x y z : Str} {px py pz pt pt2 : Pos} {kt k2 : Nat} {a b d : Expr} {env : PySem.Env} (hk : env.scope.kind = .function) (hx : env.scope.names.lookup x = some .local) (hy : env.scope.names.lookup y = some .local) (hz : env.scope.names.lookup z = some .local) (hl : py.line = px.line) (hl2 : pz.line = px.line) (hne : x ≠ y) (hne2 : x ≠ z) (hne3 : y ≠ z)
    (sa : plainX a = true) (sb : plainX b = true) (sd : plainX d = true) (hf : (foldedForSure 8 a && foldedForSure 8 b && foldedForSure 8 d) = false) (hc : (constantsAlone 8 a && constantsAlone 8 b && constantsAlone 8 d) = false) :
    swappedStores [.Tuple [.Name x px, .Name y py, .Name z pz] kt pt] (.Tuple [a, b, d] k2 pt2) env = pure (some [x, y, z]) := by
  have hb : env.blockKind = .function := by unfold PySem.Env.blockKind; rw [hk]; rfl
  have kx : env.kindOf x = some .local := hx
  have kz : env.kindOf z = some .local := hz
  have ky : env.kindOf y = some .local := hy
  have s1 : ∀ e : Expr, plainX e = true → (match e with | .Starred .. => true | _ => false) = false := fun e h => by cases e <;> first | rfl | cases h
  have yx : (y == x) = false := by simpa using hne.symm
  have zx : (z == x) = false := by simpa using hne2.symm
  have zy : (z == y) = false := by simpa using hne3.symm
  have ed : [x, y, z].eraseDups = [x, y, z] := by simp [zx, zy, List.eraseDups, List.eraseDupsBy, List.eraseDupsBy.loop, yx]
  unfold swappedStores
  simp [hb, kx, ky, kz, Expr.pos, hl, hl2, s1 a sa, s1 b sb, s1 d sd, ed, hf, hc]
  refine (if_neg fun q => ?_).trans ((if_neg fun q => ?_).trans (if_neg fun q => ?_))
  · rcases q with q | q | q
    · split at q
      · cases sa
      · cases q
    · split at q
      · cases sb
      · cases q
    · split at q
      · cases sd
      · cases q
  · simp [q.1, q.2.1, q.2.2] at hf
  · simp [q.1, q.2.1, q.2.2] at hc
def notTup : Expr → Bool
  | .Tuple .. => false
  | _ => true
theorem notTup_sw {ts : List Expr} {e : Expr} {env : PySem.Env} (h : notTup e = true) : swappedStores ts e env = pure none := by
  cases e <;> first | (cases h; done) | skip
  all_goals (unfold swappedStores; rcases ts with _ | ⟨t, _ | ⟨u, r⟩⟩ <;> first | rfl | (cases t <;> rfl))
theorem nol2 {x y : Str} {px py p p2 : Pos} {k k2 : Nat} {vs : List Expr} {env : PySem.Env} (hk : ¬ env.kindOf x = some .local ∨ ¬ env.kindOf y = some .local) : swappedStores [.Tuple [.Name x px, .Name y py] k p] (.Tuple vs k2 p2) env = pure none := by
  unfold swappedStores
  rcases hk with hk | hk <;> simp [hk, List.filterMap_cons] <;> (intro _ _ _ h4; exfalso; split at h4 <;> (try split at h4) <;> simp at h4)
theorem nol3 {x y z : Str} {px py pz p p2 : Pos} {k k2 : Nat} {vs : List Expr} {env : PySem.Env} (hk : (¬ env.kindOf x = some .local ∨ ¬ env.kindOf y = some .local) ∨ ¬ env.kindOf z = some .local) : swappedStores [.Tuple [.Name x px, .Name y py, .Name z pz] k p] (.Tuple vs k2 p2) env = pure none := by
  unfold swappedStores
  rcases hk with (hk | hk) | hk <;> simp [hk, List.filterMap_cons] <;> (intro _ _ _ h4; exfalso; split at h4 <;> (try split at h4) <;> (try split at h4) <;> simp at h4)
def nolB (sc : Scope) : List Expr → Bool
  | [.Name x _, .Name y _] => decide (¬ sc.names.lookup x = some .local) || decide (¬ sc.names.lookup y = some .local)
  | [.Name x _, .Name y _, .Name z _] => decide (¬ sc.names.lookup x = some .local) || decide (¬ sc.names.lookup y = some .local) || decide (¬ sc.names.lookup z = some .local)
  | _ => false
theorem nol_sw {sc : Scope} {es : List Expr} {k : Nat} {p : Pos} {e : Expr} {env : PySem.Env} (hs : env.scope = sc) (h : (notTup e || nolB sc es) = true) : swappedStores [.Tuple es k p] e env = pure none := by
  rw [Bool.or_eq_true] at h
  rcases h with h | h
  · exact notTup_sw h
  · subst hs
    unfold nolB at h
    cases e with
    | Tuple vs k2 p2 =>
      split at h
      · simp only [Bool.or_eq_true, decide_eq_true_eq] at h
        exact nol2 h
      · simp only [Bool.or_eq_true, decide_eq_true_eq] at h
        exact nol3 h
      · cases h
    | _ => exact notTup_sw rfl
theorem swp_len {ts vs : List Expr} {k k2 : Nat} {p p2 : Pos} {env : PySem.Env} (h : 4 ≤ ts.length) : swappedStores [.Tuple ts k p] (.Tuple vs k2 p2) env = pure none := by
  have e : (ts.length == 2 || ts.length == 3) = false := by
    rw [Bool.or_eq_false_iff]
    exact ⟨beq_eq_false_iff_ne.mpr (by omega), beq_eq_false_iff_ne.mpr (by omega)⟩
  unfold swappedStores
  simp [e]
def nmsB (N : List Str) (sc : Scope) : List Nat → List Expr → Bool
  | [], [] => true
  | i :: is, e :: es => (match e with
    | .Name x _ => decide (N[i]? = some x) && stB sc sc x
    | _ => false) && nmsB N sc is es
  | _, _ => false
def celB (sc : Scope) (x : Str) : Bool := decide (sc.names.lookup x = some .cell)
theorem sw_cel {x : Str} {e : Expr} {p : Pos} {n : Nat} {env : PySem.Env} (h : env.scope.names.lookup x = some .cell) : swapsWith e (some (.Name x p)) n env = pure false := by
  have k : (env.kindOf x == some .local) = false := by
    show (env.scope.names.lookup x == some .local) = false
    rw [h]; rfl
  cases e <;> first
    | rfl
    | (unfold swapsWith; simp only [k, Bool.and_false, Bool.false_and, pure_bind])
def notNm : LT → Bool
  | .nm _ => false
  | _ => true
def par2B (N : List Str) (sc : Scope) (i j : Nat) (x y : Str) (px py : Pos) (ea eb : Expr) : Bool :=
  decide (N[i]? = some x) && decide (N[j]? = some y) && decide (i ≠ j) && lclB sc x && lclB sc y && decide (py.line = px.line) && decide (x ≠ y) && plainX ea && plainX eb && !(foldedForSure 8 ea && foldedForSure 8 eb) && !(constantsAlone 8 ea && constantsAlone 8 eb)
def par3B (N : List Str) (sc : Scope) (i j k : Nat) (x y z : Str) (px py pz : Pos) (ea eb ec : Expr) : Bool :=
  decide (N[i]? = some x) && decide (N[j]? = some y) && decide (N[k]? = some z) && (decide (i ≠ j) && decide (i ≠ k) && decide (j ≠ k)) && (lclB sc x && lclB sc y && lclB sc z) && (decide (py.line = px.line) && decide (pz.line = px.line)) && (decide (x ≠ y) && decide (x ≠ z) && decide (y ≠ z)) && (plainX ea && plainX eb && plainX ec) && !(foldedForSure 8 ea && foldedForSure 8 eb && foldedForSure 8 ec) && !(constantsAlone 8 ea && constantsAlone 8 eb && constantsAlone 8 ec)
def cmpB (sc : Scope) (x : Str) (p : Pos) : Expr → Bool
  | .ListComp _ _ scope pos => lclB sc x && p.line == pos.line && !(scope.names.any fun (n, k) => n == x && (k == .local || k == .cell))
  | _ => false
def okCs (Γ : Sg) (N : List Str) (sc : Scope) (e : Expr) : LE → Bool
  | .thaw l => ok Γ N l 1 sc e
  | .comp a g t c own => ok Γ N (.comp a g t c own) 1 sc e
  | _ => false
mutual
def rdS (N : List Str) : LS → Sg → Scope → Stmt → Bool
  | .pass, Γ, _, s => match s with
    | .Pass _ => true
    | _ => false
  | .never, Γ, _, _ => true
  | .asg t l, Γ, sc, s => match s with
    | .Assign [.Name x p] e _ => (match t with
      | .nm i => decide (N[i]? = some x) && ((plainC e && stB sc sc x && ok Γ N l 0 sc e) || ((cmpB sc x p e && okCs Γ N sc e l) || (celB sc x && stB sc sc x && ok Γ N l 0 sc e)))
      | _ => false)
    | .Assign [.Tuple es k p] e _ => notNm t && plainC e && (notTup e || nolB sc es) && okG N Γ.hot sc t sc (.Tuple es k p) && ok Γ N l 0 sc e
    | _ => false
  | .par i j a b, Γ, sc, s => match s with
    | .Assign [.Tuple [.Name x px, .Name y py] _ _] (.Tuple [ea, eb] _ _) _ => !Γ.hot && par2B N sc i j x y px py ea eb && ok Γ N a 0 sc ea && ok Γ N b 0 sc eb
    | _ => false
  | .parN is es, Γ, sc, s => match s with
    | .Assign [.Tuple ts _ _] (.Tuple vs _ _) _ => !Γ.hot && decide (ts.length ≤ 60) && (nolB sc ts || decide (4 ≤ ts.length)) && nmsB N sc is ts && okEs Γ N es sc vs
    | _ => false
  | .par3 i j k a b d, Γ, sc, s => match s with
    | .Assign [.Tuple [.Name x px, .Name y py, .Name z pz] _ _] (.Tuple [ea, eb, ed] _ _) _ => !Γ.hot && par3B N sc i j k x y z px py pz ea eb ed && ok Γ N a 0 sc ea && ok Γ N b 0 sc eb && ok Γ N d 0 sc ed
    | _ => false
  | .sub a i l, Γ, sc, s => match s with
    | .Assign [.Subscript ea ei _] e _ => plainX ei && ok Γ N a 0 sc ea && ok Γ N i 0 sc ei && ok Γ N l 0 sc e
    | _ => false
  | .ex l, Γ, sc, s => match s with
    | .Expr e _ => plainC e && ok Γ N l 0 sc e
    | _ => false
  | .ife l a b, Γ, sc, s => match s with
    | .If e sa sb _ => ok Γ N l 2 sc e && rdSs N a Γ sc sa && rdSs N b Γ sc sb
    | _ => false
  | .for_ t g b, Γ, sc, s => match s with
    | .For tg iter sb [] _ => !Γ.hot && plainX iter && okI Γ N g sc tg iter && okG N Γ.hot sc t sc tg && rdSs N b Γ sc sb
    | _ => false
  | .while_ l b, Γ, sc, s => match s with
    | .While e sb [] _ => ok Γ N l 2 sc e && rdSs N b Γ sc sb
    | _ => false
  | .ret l, Γ, sc, s => match s with
    | .Return (some e) _ => ok Γ N l 0 sc e
    | _ => false
  | .retk l, Γ, sc, s => match s with
    | .Return (some e) _ => ok Γ N l 0 sc e
    | _ => false
  | .retn, Γ, _, s => match s with
    | .Return none _ => true
    | _ => false
  | .raise ci x es, Γ, sc, s => match s with
    | .Raise (some (.Call (.Name y _) [] [] _)) none _ => !Γ.hot && y == (x : Str) && glB sc y && !dbg y && decide (Γ.cls[ci]? = some x) && Γ.rz.contains ci && decide (lenEs es = 0)
    | _ => false
  | .try_ b ci x j h, Γ, sc, s => match s with
    | .Try body [.ExceptHandler (some (.Name y _)) (some n) (b0 :: su) _] [] [] _ => !Γ.hot && y == (x : Str) && glB sc y && !dbg y && decide (Γ.cls[ci]? = some x) && decide (N[j]? = some n) && lclB sc n && rdSs N b Γ sc body && rdSs N h { Γ with hot := true } sc (b0 :: su)
    | _ => false
def rdSs (N : List Str) : LSs → Sg → Scope → List Stmt → Bool
  | .nil, Γ, _, ss => ss.isEmpty
  | .cons l ls, Γ, sc, ss => match ss with
    | s :: ss => rdS N l Γ sc s && rdSs N ls Γ sc ss
    | [] => false
end
section
variable {P : Program} {w : World} {mg : Str → Option Value} {base : PySem.Heap} {k : Nat} {N : List Str}
theorem SgOk.heat {c : Glb} {U : EV.Env} {Γ : Sg} (S : SgOk c P w mg base k Γ U) (ex : Option (Addr × Nat)) : SgOk { c with ex := ex } P w mg base k { Γ with hot := true } { U with cf := fun _ _ _ => .stuck } where
  fn := fun f x np h => by
    obtain ⟨fa, fd, ps, F, hm, hk, hb, hf⟩ := S.fn f x np h
    exact ⟨fa, fd, ps, ⟨fun vs H Q E ⟨g, xs, _, _, _, _, o⟩ => o.elim, fun A outer s H args us vs Q E hr he hbd hv ⟨g, xs, _, _, _, _, o⟩ => o.elim⟩, hm, hk, hb, hf⟩
  fa := S.fa
  ar := fun f x np vs St h hn => rfl
  blt := S.blt
  cl := S.cl
  sb := S.sb
  rz := S.rz
  gv := S.gv
  lam := fun fl I g cs ds f c' qual cells pm ctv ts us xs ws vs A outer s Q E _ _ _ _ _ _ _ out => out.elim
  lmk := S.lmk
  pl := fun f vs St v S' h => by cases h
/-- X(), an own error without arguments -/
theorem pmk_own0 {X : Cx} {C : Addr} {bmB : List Value} {B newId initId : String} {x : Str} {p pos : Pos} (F : ExcBaseFacts B newId initId bmB) (q : PySem.W.excIn X.K C bmB newId = true) (gC : X.mg x = some (.ref C)) (kC : PySem.W.keepIn X.K (.ref C) = true) (r : Raises X (.ref C)) (hg : Gl X x)
    (hdb : (x == ("__debug__" : Str)) = false) : PMk X (.Call (.Name x p) [] [] pos) (fun _ H Q => Q (.ref C) none H) := by
  intro pins s σ H Q I h
  refine wpAny_Call_Name_kw (ld_glob I hg gC ?_ hdb)
  refine PySem.W.callWith_K0 I.kIn kC ?_
  show wpAny _ _ (call (.ref C) []) _ _ _
  obtain ⟨bm, N, nm, qn, bs, hdct, sn, sub, ab, col, dd, k0, k1, k2, k3, k5, mN, hC, hN, hni, T⟩ := exc_obj I.kIn q
  refine wpAny_call_exc_subT F T hC hN hni (fun h' e hm => ?_) (Nat.zero_le _)
  exact mk_of I hm r h (I.hok.gone hm.new)
theorem raise_ok {c : Glb} {U : EV.Env} {Γ : Sg} (S : SgOk c P w mg base k Γ U) {ws sc : Scope} {X : Cx} (g : XG c P w mg base k N Γ ws sc X) (hh : Γ.hot = false) {W : WX} (tk : Takes X W) {ci : Nat} {x : String} {p p2 p3 : Pos} (h2 : glB sc (x : Str) = true) (h3 : dbg (x : Str) = false) (h4 : Γ.cls[ci]? = some x) (h5 : ci ∈ Γ.rz) :
    PS X (.Raise (some (.Call (.Name (x : Str) p) [] [] p2)) none p3) (tS c U W (.raise ci x .nil)) := by
  obtain ⟨C, B, newId, initId, bmB, hca, hm, hk, F, q, r1, r2⟩ := S.rz ci x h5 h4
  refine PS.imp (ps_raise (g.calm hh) tk (pmk_own0 F (by rw [g.K]; exact q) (by rw [g.mg]; exact hm) (by rw [g.K]; exact hk) (raises_own (by rw [g.K]; exact r1) (by rw [g.K]; exact r2)) (g.gl h2) h3)) fun E σ H => ?_
  rintro ⟨g0, loc, rfl, ok, lo, out⟩
  obtain ⟨cls, e, hw⟩ := out g0.ρ g0.H none σ ok (Le.refl g0) lo ⟨rfl, rfl⟩
  rw [hca] at e
  cases e
  exact hw
theorem repBs_ex {c : Glb} {ex : Option (Addr × Nat)} {g : G} : ∀ {vs : List Vl} {ws : List V}, RepBs { c with ex := ex } g vs ws → RepBs c g vs ws
  | _, _, .nil => .nil
  | _, _, .cons r t => .cons (by cases r with | d r => exact .d r | ref r => exact .ref r | fnv r => exact .fnv r) (repBs_ex t)
theorem repBs_ex2 {c : Glb} {ex : Option (Addr × Nat)} {g : G} : ∀ {vs : List Vl} {ws : List V}, RepBs c g vs ws → RepBs { c with ex := ex } g vs ws
  | _, _, .nil => .nil
  | _, _, .cons r t => .cons (by cases r with | d r => exact .d r | ref r => exact .ref r | fnv r => exact .fnv r) (repBs_ex2 t)
theorem noX_rep {c : Glb} {ex : Option (Addr × Nat)} {g : G} : ∀ (v : Vl) (w : V), noX v = true → RepV { c with ex := ex } g v w → RepV c g v w
  | .d x, w, h, r => by cases r with | d r => exact .d r
  | .ref n, w, h, r => by cases r with | ref r => exact .ref r
  | .fnv f, w, h, r => by cases r with | fnv r => exact .fnv r
  | .exn k xs, w, h, r => by cases h
  | .clo f cs, w, h, r => by cases r with | clo k r => exact .clo ⟨k.lam, k.fo, k.co, k.tk, k.cap, k.cel, k.inj, k.rv, k.tc, k.ln⟩ (repBs_ex r)
  | .scr ds, w, h, r => by cases r with | scr a b r => exact .scr a b r
theorem cold_rep {c : Glb} (hc : c.ex = none) {ex : Option (Addr × Nat)} {g : G} : ∀ (v : Vl) (w : V), RepV c g v w → RepV { c with ex := ex } g v w
  | .d x, w, r => by cases r with | d r => exact .d r
  | .ref n, w, r => by cases r with | ref r => exact .ref r
  | .fnv f, w, r => by cases r with | fnv r => exact .fnv r
  | .exn k xs, w, r => by
    cases r with
    | exn e => rw [hc] at e; cases e
  | .clo f cs, w, r => by cases r with | clo k r => exact .clo ⟨k.lam, k.fo, k.co, k.tk, k.cap, k.cel, k.inj, k.rv, k.tc, k.ln⟩ (repBs_ex2 r)
  | .scr ds, w, r => by cases r with | scr a b r => exact .scr a b r
theorem gok_ex {c : Glb} {ex : Option (Addr × Nat)} {g : G} (h : GOk c g) : GOk { c with ex := ex } g := ⟨h.len, h.nd, h.apart, h.hid, h.cell, h.tabs⟩
theorem gok_unex {c : Glb} {ex : Option (Addr × Nat)} {g : G} (h : GOk { c with ex := ex } g) : GOk c g := ⟨h.len, h.nd, h.apart, h.hid, h.cell, h.tabs⟩
theorem noXl_loc {c : Glb} {ex : Option (Addr × Nat)} {g : G} {l : Loc} {σ : L2.St} {j : Nat} (h : noXl (l.set j none) = true) (r : LocOk { c with ex := ex } g l σ) : LocOk c g (l.set j none) (σ.set j none) := by
  have r2 := r.forget j
  refine ⟨r2.len, fun i v e => ?_⟩
  obtain ⟨w, h1, h2⟩ := r2.at_ i v e
  refine ⟨w, h1, noX_rep v w ?_ h2⟩
  unfold noXl at h
  rw [List.all_eq_true] at h
  exact h (some v) (List.mem_of_getElem? e)
theorem try_ok {c : Glb} {U : EV.Env} {Γ : Sg} (S : SgOk c P w mg base k Γ U) {ws sc : Scope} {X : Cx} (g : XG c P w mg base k N Γ ws sc X) (hh : Γ.hot = false) (hst : X.stack = X.env :: X.outer ∧ X.env.frame = some X.env.locals) {W : WX} (tk : Takes X W) {ci j : Nat} {x : String} {n : Str} {np pos pos' : Pos} {body su : List Stmt} {b0 : Stmt} {b hs : LSs}
    (h2 : glB sc (x : Str) = true) (h3 : dbg (x : Str) = false) (h4 : Γ.cls[ci]? = some x) (h5 : N[j]? = some n) (h6 : lclB sc n = true)
    (hb : ∀ (W : WX) (pn : List (Addr × Obj)) (xe : Value → Shared → Prop), Takes (X.tr pn xe) W → PassesOwn (model X.prog X.w) X.A X.env xe → PSs (X.tr pn xe) body (tSs c U W b))
    (hu : ∀ (a : Addr) (oe : Obj) (k' : Nat) (pn : List (Addr × Obj)) (D : Addr), Zc (.ref D) none oe → (∃ vs, oe.data = .fields vs) → c.ca k' = some (.ref D) → ExcC X.K D → PSs (X.suite a ((a, oe) :: pn)) (b0 :: su) (tSs { c with ex := some (a, k') } { U with cf := fun _ _ _ => .stuck } F0 hs)) :
    PS X (.Try body [.ExceptHandler (some (.Name (x : Str) np)) (some n) (b0 :: su) pos'] [] [] pos) (tS c U W (.try_ b ci x j hs)) := by
  obtain ⟨cv, v, hca, rv, hun, hn⟩ := S.cl ci x h4
  have hl := g.lcl h6
  have hnm : Names X (x : Str) cv := ⟨g.gl h2, h3, by rw [g.mg]; exact hn⟩
  refine PS.imp (ps_try_as (c := cv) (i := j) (tb := fun W => tSs c U W b)
    (ts := fun a cls d E σ H => ∃ (k' : Nat) (D : Addr), cls = .ref D ∧ d = none ∧ c.ca k' = some (.ref D) ∧ ExcC X.K D ∧ tSs { c with ex := some (a, k') } { U with cf := fun _ _ _ => .stuck } F0 hs E σ H)
    hst.1 hst.2 g.ndN (g.at_ h5) hl hnm tk hb (fun a oe cls d pn hz hf => ⟨fun pins s σ H E I h => ?_⟩)) fun E σ H => ?_
  · obtain ⟨k', D, rfl, rfl, q1, q2, q3⟩ := h
    exact (hu a oe k' pn D hz hf q1 q2).run pins s σ H E I q3
  · rintro ⟨g0, loc, rfl, ok, lo, out⟩
    refine ⟨g0, loc, rfl, ok, lo, ?_⟩
    have out : OutS c g0 W E (match evSs U b loc g0.S with
      | .exc k xs l' S' => (match U.sub k ci with
        | some true => (match evSs { U with cf := fun _ _ _ => .stuck } hs (l'.set j (some (.exn k xs))) S' with
          | .nx l2 S2 => if noXl (l2.set j none) then .nx (l2.set j none) S2 else .stuck
          | .ret v S2 => if noX v then .ret v S2 else .stuck
          | _ => .stuck)
        | some false => .exc k xs l' S'
        | none => .stuck)
      | r => r) := out
    cases hr : evSs U b loc g0.S with
    | nx l' S' => rw [hr] at out; exact out
    | ret v S' => rw [hr] at out; exact out
    | bk l' S' => rw [hr] at out; exact out
    | ct l' S' => rw [hr] at out; exact out
    | stuck => rw [hr] at out; exact out
    | exc kx xs l' S' =>
      rw [hr] at out
      intro ρ' H' d σ' ok1 le1 lo1 ex1
      have out : OutS c g0 W E (match U.sub kx ci with
        | some true => (match evSs { U with cf := fun _ _ _ => .stuck } hs (l'.set j (some (.exn kx xs))) S' with
          | .nx l2 S2 => if noXl (l2.set j none) then .nx (l2.set j none) S2 else .stuck
          | .ret v S2 => if noX v then .ret v S2 else .stuck
          | _ => .stuck)
        | some false => .exc kx xs l' S'
        | none => .stuck) := out
      cases hsb : U.sub kx ci with
      | none => rw [hsb] at out; exact out.elim
      | some bb =>
        obtain ⟨D, cv', d1, d2, d3, d4, d5⟩ := S.sb _ _ _ hsb
        rw [hca] at d2
        cases d2
        rw [hsb] at out
        refine ⟨.ref D, d1, bb, by rw [g.K]; exact d3, fun e => ?_, fun e => ?_⟩
        · subst e
          intro a ha
          obtain ⟨e1, e2⟩ := ex1
          refine ⟨kx, D, rfl, e2, d1, by rw [g.K]; exact d5, ⟨g0.hid, ρ', S', H'⟩, l'.set j (some (.exn kx xs)), rfl, gok_ex ok1, ?_, ?_⟩
          · exact LocOk.set (c := { c with ex := some (a, kx) }) ⟨lo1.len, fun i v q => let ⟨w, q1, q2⟩ := lo1.at_ i v q; ⟨w, q1, cold_rep (g.cold hh) v w q2⟩⟩ (.exn rfl) j
          · have out : OutS c ⟨g0.hid, ρ', S', H'⟩ W E (match evSs { U with cf := fun _ _ _ => .stuck } hs (l'.set j (some (.exn kx xs))) S' with
              | .nx l2 S2 => if noXl (l2.set j none) then .nx (l2.set j none) S2 else .stuck
              | .ret v S2 => if noX v then .ret v S2 else .stuck
              | _ => .stuck) := OutS.le (g := g0) out le1
            show OutS { c with ex := some (a, kx) } ⟨g0.hid, ρ', S', H'⟩ F0 _ (evSs { U with cf := fun _ _ _ => .stuck } hs (l'.set j (some (.exn kx xs))) S')
            cases hq : evSs { U with cf := fun _ _ _ => .stuck } hs (l'.set j (some (.exn kx xs))) S' with
            | nx l2 S2 =>
              rw [hq] at out
              have out : OutS c ⟨g0.hid, ρ', S', H'⟩ W E (if noXl (l2.set j none) then .nx (l2.set j none) S2 else .stuck) := out
              split at out
              · rename_i hx
                intro ρ2 H2 σ2 ok2 le2 lo2
                exact out ρ2 H2 _ (gok_unex ok2) le2 (noXl_loc hx lo2)
              · exact out.elim
            | ret v2 S2 =>
              rw [hq] at out
              have out : OutS c ⟨g0.hid, ρ', S', H'⟩ W E (if noX v2 then .ret v2 S2 else .stuck) := out
              split at out
              · rename_i hx
                intro ρ2 H2 w2 ok2 le2 r2
                exact out ρ2 H2 w2 (gok_unex ok2) le2 (noX_rep v2 w2 hx r2)
              · exact out.elim
            | bk l2 S2 => rw [hq] at out; exact out.elim
            | ct l2 S2 => rw [hq] at out; exact out.elim
            | exc k2 xs2 l2 S2 => rw [hq] at out; exact out.elim
            | stuck => rw [hq] at out; exact out.elim
        · subst e
          obtain ⟨cls, q1, q2⟩ := out ρ' H' d σ' ok1 le1 lo1 ex1
          rw [d1] at q1
          cases q1
          exact q2
theorem nms_ok {c : Glb} {P : Program} {w : World} {mg : Str → Option Value} {base : PySem.Heap} {k : Nat} {N : List Str} {sc : Scope} {X : Cx} {Γ : Sg} (g : XG c P w mg base k N Γ sc sc X) : ∀ (is : List Nat) (ts : List Expr), nmsB N sc is ts = true → NmsAt X is ts
  | [], [], _ => trivial
  | [], _ :: _, h => by simp [nmsB] at h
  | _ :: _, [], h => by simp [nmsB] at h
  | i :: is, e :: es, h => by
    simp only [nmsB, Bool.and_eq_true] at h
    obtain ⟨h1, h2⟩ := h
    refine ⟨?_, nms_ok g is es h2⟩
    split at h1
    · simp only [Bool.and_eq_true, decide_eq_true_eq] at h1
      obtain ⟨q1, q2⟩ := g.lc h1.2
      exact ⟨_, _, rfl, g.at_ h1.1, q1, q2⟩
    · cases h1
theorem lclB_loc {ws sc : Scope} {x : Str} (h : lclB sc x = true) : stB ws sc x = true := by
  have h1 : locB sc x = true := by
    unfold lclB at h
    unfold locB
    split at h
    · rename_i q; rw [q]
    · cases h
  unfold stB
  rw [h1, h]
  rfl
mutual
theorem rdS_snd : ∀ (l : LS) (c : Glb) (U : EV.Env) (Γ : Sg) (S : SgOk c P w mg base k Γ U) (sc : Scope) (s : Stmt) (X : Cx), sc.kind = .function → XG c P w mg base k N Γ sc sc X → PassesOwn (model X.prog X.w) X.A X.env X.xe → (X.stack = X.env :: X.outer ∧ X.env.frame = some X.env.locals) → rdS N l Γ sc s = true → ∀ W, Takes X W → PS X s (tS c U W l)
  | .pass, c, U, Γ, S, sc, s, X, hk, g, po, hst, h, W, tk => by
    simp only [rdS] at h
    split at h
    · exact s_pass
    · cases h
  | .never, c, U, Γ, S, sc, s, X, hk, g, po, hst, h, W, tk => s_never
  | .asg t l, c, U, Γ, S, sc, s, X, hk, g, po, hst, h, W, tk => by
    simp only [rdS] at h
    split at h
    · split at h
      · simp only [Bool.and_eq_true, Bool.or_eq_true, decide_eq_true_eq] at h
        obtain ⟨h1, h | h | h⟩ := h
        · obtain ⟨⟨h2, h3⟩, h4⟩ := h
          obtain ⟨q1, q2⟩ := g.lc h3
          exact s_asg g.ndN (g.at_ h1) q1 q2 h2 ((ok_snd S l 0 sc sc _ X g h4 W tk).1 rfl)
        · obtain ⟨h2, h3⟩ := h
          unfold cmpB at h2
          split at h2
          · rename_i x p spos i _ _ elt gs scope cp
            simp only [Bool.and_eq_true] at h2
            obtain ⟨⟨h4, h5⟩, h6⟩ := h2
            have hl := g.lcl h4
            have sw : swapsWith (.ListComp elt gs scope cp) (some (.Name x p)) spos.line X.env = pure true := sw_true (by rw [g.eS]; exact hk) hl h5 (bnot h6)
            unfold okCs at h3
            split at h3
            · exact s_asgT (((ok_snd S _ 1 sc sc _ X g h3 W tk).2.1 rfl).2 _ _ _ _ rfl _ _ _ _ (g.at_ h1) hl sw)
            · exact s_asgF hd_comp (((ok_snd S _ 1 sc sc _ X g h3 W tk).2.1 rfl).2 _ _ _ _ rfl _ _ _ _ (g.at_ h1) hl sw)
            · cases h3
          · cases h2
        · obtain ⟨⟨h2, h3⟩, h4⟩ := h
          obtain ⟨q1, q2⟩ := g.lc h3
          exact s_asgC g.ndN (g.at_ h1) q1 q2 (sw_cel (by rw [g.eS]; exact of_decide_eq_true h2)) ((ok_snd S l 0 sc sc _ X g h4 W tk).1 rfl)
      · cases h
    · simp only [Bool.and_eq_true] at h
      obtain ⟨⟨⟨⟨h1, h2⟩, h3⟩, h4⟩, h5⟩ := h
      exact s_asgTup (fun i e => by subst e; cases h1) h2 (nol_sw g.eS h3) ((ok_snd S l 0 sc sc _ X g h5 W tk).1 rfl) (okG_ok g t _ h4)
    · cases h
  | .par i j a b, c, U, Γ, S, sc, s, X, hk, g, po, hst, h, W, tk => by
    simp only [rdS] at h
    split at h
    · unfold par2B at h
      simp only [Bool.and_eq_true, decide_eq_true_eq] at h
      obtain ⟨⟨⟨h0, ⟨⟨⟨⟨⟨⟨⟨⟨⟨⟨h1, h2⟩, h3⟩, h4⟩, h5⟩, h6⟩, h7⟩, h8⟩, h9⟩, h10⟩, h11⟩⟩, h12⟩, h13⟩ := h
      exact s_par (g.calm (bnot h0)) g.ndN (g.at_ h1) (g.at_ h2) h3 (g.lcl h4) (g.lcl h5) h8 h9 ((ok_snd S a 0 sc sc _ X g h12 W tk).1 rfl) ((ok_snd S b 0 sc sc _ X g h13 W tk).1 rfl)
        (swp2 (by rw [g.eS]; exact hk) (g.lcl h4) (g.lcl h5) h6 h7 h8 h9 (bnot h10) (bnot h11))
    · cases h
  | .parN is es, c, U, Γ, S, sc, s, X, hk, g, po, hst, h, W, tk => by
    simp only [rdS] at h
    split at h
    · simp only [Bool.and_eq_true, decide_eq_true_eq, Bool.or_eq_true] at h
      obtain ⟨⟨⟨⟨h0, h1⟩, h2⟩, h3⟩, h4⟩ := h
      refine s_parN (g.calm (bnot h0)) g.ndN (nms_ok g _ _ h3) h1 ?_ (okEs_snd S es sc sc _ X g h4 W tk)
      rcases h2 with h2 | h2
      · exact nol_sw g.eS (by rw [h2]; exact Bool.or_true _)
      · exact swp_len h2
    · cases h
  | .par3 i j m a b d, c, U, Γ, S, sc, s, X, hk, g, po, hst, h, W, tk => by
    simp only [rdS] at h
    split at h
    · unfold par3B at h
      simp only [Bool.and_eq_true, decide_eq_true_eq] at h
      obtain ⟨⟨⟨⟨h0, ⟨⟨⟨⟨⟨⟨⟨⟨⟨h1, h2⟩, h3⟩, ⟨⟨h4, h5⟩, h6⟩⟩, ⟨⟨h7, h8⟩, h9⟩⟩, ⟨h10, h11⟩⟩, ⟨⟨h12, h13⟩, h14⟩⟩, ⟨⟨h15, h16⟩, h17⟩⟩, h18⟩, h19⟩⟩, h20⟩, h21⟩, h22⟩ := h
      exact s_par3 (g.calm (bnot h0)) g.ndN (g.at_ h1) (g.at_ h2) (g.at_ h3) h4 h5 h6 (g.lcl h7) (g.lcl h8) (g.lcl h9) h15 h16 h17 ((ok_snd S a 0 sc sc _ X g h20 W tk).1 rfl) ((ok_snd S b 0 sc sc _ X g h21 W tk).1 rfl) ((ok_snd S d 0 sc sc _ X g h22 W tk).1 rfl)
        (swp3 (by rw [g.eS]; exact hk) (g.lcl h7) (g.lcl h8) (g.lcl h9) h10 h11 h12 h13 h14 h15 h16 h17 (bnot h18) (bnot h19))
    · cases h
  | .sub a i l, c, U, Γ, S, sc, s, X, hk, g, po, hst, h, W, tk => by
    simp only [rdS] at h
    split at h
    · simp only [Bool.and_eq_true] at h
      obtain ⟨⟨⟨h1, h2⟩, h3⟩, h4⟩ := h
      exact s_sub g.hu h1 ((ok_snd S a 0 sc sc _ X g h2 W tk).1 rfl) ((ok_snd S i 0 sc sc _ X g h3 W tk).1 rfl) ((ok_snd S l 0 sc sc _ X g h4 W tk).1 rfl)
    · cases h
  | .ex l, c, U, Γ, S, sc, s, X, hk, g, po, hst, h, W, tk => by
    simp only [rdS] at h
    split at h
    · simp only [Bool.and_eq_true] at h
      exact s_ex h.1 ((ok_snd S l 0 sc sc _ X g h.2 W tk).1 rfl)
    · cases h
  | .ife l a b, c, U, Γ, S, sc, s, X, hk, g, po, hst, h, W, tk => by
    simp only [rdS] at h
    split at h
    · simp only [Bool.and_eq_true] at h
      obtain ⟨⟨h1, h2⟩, h3⟩ := h
      exact s_if ((ok_snd S l 2 sc sc _ X g h1 W tk).2.2 rfl).1 (rdSs_snd a c U Γ S sc _ X hk g po hst h2 W tk) (rdSs_snd b c U Γ S sc _ X hk g po hst h3 W tk)
    · cases h
  | .for_ t gi b, c, U, Γ, S, sc, s, X, hk, g, po, hst, h, W, tk => by
    simp only [rdS] at h
    split at h
    · simp only [Bool.and_eq_true] at h
      obtain ⟨⟨⟨⟨h0, h1⟩, h2⟩, h3⟩, h4⟩ := h
      exact s_for po (g.calm (bnot h0)) (okI_snd S gi sc sc _ _ X g h2 W tk) (okG_ok g t _ h3) (rdSs_snd b c U Γ S sc _ X hk g po hst h4 W tk) (fun x => set_ok h1 x)
    · cases h
  | .while_ l b, c, U, Γ, S, sc, s, X, hk, g, po, hst, h, W, tk => by
    simp only [rdS] at h
    split at h
    · simp only [Bool.and_eq_true] at h
      exact s_while po ((ok_snd S l 2 sc sc _ X g h.1 W tk).2.2 rfl).1 (rdSs_snd b c U Γ S sc _ X hk g po hst h.2 W tk)
    · cases h
  | .ret l, c, U, Γ, S, sc, s, X, hk, g, po, hst, h, W, tk => by
    simp only [rdS] at h
    split at h
    · exact s_ret ((ok_snd S l 0 sc sc _ X g h W tk).1 rfl)
    · cases h
  | .retk l, c, U, Γ, S, sc, s, X, hk, g, po, hst, h, W, tk => by
    simp only [rdS] at h
    split at h
    · exact s_retk ((ok_snd S l 0 sc sc _ X g h W tk).1 rfl)
    · cases h
  | .retn, c, U, Γ, S, sc, s, X, hk, g, po, hst, h, W, tk => by
    simp only [rdS] at h
    split at h
    · exact s_retn
    · cases h
  | .raise ci x es, c, U, Γ, S, sc, s, X, hk, g, po, hst, h, W, tk => by
    simp only [rdS] at h
    split at h
    · simp only [Bool.and_eq_true, decide_eq_true_eq] at h
      obtain ⟨⟨⟨⟨⟨⟨h0, h1⟩, h2⟩, h3⟩, h4⟩, h5⟩, h6⟩ := h
      have e1 := str_eq h1
      subst e1
      cases es with
      | cons e es => simp [lenEs] at h6
      | nil => exact raise_ok S g (bnot h0) tk h2 (bnot h3) h4 (by simpa using h5)
    · cases h
  | .try_ b ci x j hs, c, U, Γ, S, sc, s, X, hk, g, po, hst, h, W, tk => by
    simp only [rdS] at h
    split at h
    · simp only [Bool.and_eq_true, decide_eq_true_eq] at h
      obtain ⟨⟨⟨⟨⟨⟨⟨⟨h0, h1⟩, h2⟩, h3⟩, h4⟩, h5⟩, h6⟩, h7⟩, h8⟩ := h
      have e1 := str_eq h1
      subst e1
      have hh := bnot h0
      exact try_ok S g hh hst tk h2 (bnot h3) h4 h5 h6
        (fun W pn xe tk' po' => rdSs_snd b c U Γ S sc _ (X.tr pn xe) hk ⟨g.prog, g.w, g.K, g.mg, g.base, g.eN, g.nd, g.eS, g.calm, g.fn, g.room, g.hu, g.gd, g.cold, (fun a j e => by rw [g.cold hh] at e; cases e), g.mkr⟩ po' hst h7 W tk')
        (fun a oe k' pn D hz hf hc C => rdSs_snd hs { c with ex := some (a, k') } { U with cf := fun _ _ _ => .stuck } { Γ with hot := true } (S.heat _) sc _ (X.suite a ((a, oe) :: pn)) hk
          ⟨g.prog, g.w, g.K, g.mg, g.base, g.eN, g.nd, g.eS, (fun z => absurd (show true = false from z) (by decide)), g.fn, (fun z => absurd (show true = false from z) (by decide)), g.hu, g.gd, (fun z => absurd (show true = false from z) (by decide)), (fun a' j' e => by cases e; exact ⟨D, hc, call_isE C hz hf⟩), g.mkr⟩ PassesOwn.never hst h8 F0 takes0)
    · cases h
theorem rdSs_snd : ∀ (l : LSs) (c : Glb) (U : EV.Env) (Γ : Sg) (S : SgOk c P w mg base k Γ U) (sc : Scope) (s : List Stmt) (X : Cx), sc.kind = .function → XG c P w mg base k N Γ sc sc X → PassesOwn (model X.prog X.w) X.A X.env X.xe → (X.stack = X.env :: X.outer ∧ X.env.frame = some X.env.locals) → rdSs N l Γ sc s = true → ∀ W, Takes X W → PSs X s (tSs c U W l)
  | .nil, c, U, Γ, S, sc, s, X, hk, g, po, hst, h, W, tk => by
    simp only [rdSs, List.isEmpty_iff] at h
    subst h
    exact ss_nil
  | .cons l ls, c, U, Γ, S, sc, s, X, hk, g, po, hst, h, W, tk => by
    simp only [rdSs] at h
    split at h
    · simp only [Bool.and_eq_true] at h
      exact ss_cons (rdS_snd l c U Γ S sc _ X hk g po hst h.1 W tk) (rdSs_snd ls c U Γ S sc _ X hk g po hst h.2 W tk)
    · cases h
end
end
end EV
end

section
set_option Elab.async false
set_option linter.all false
set_option maxRecDepth 100000
set_option maxHeartbeats 4000000
/-! EV18: all defs of a text -/
namespace EV
open PySem PySem.Spec PyProof.Rows L2
theorem start_ok {c : Glb} {g : G} : ∀ {ds : List Vl} {vs : List V}, RepVs c g ds vs → ∀ n, LocOk c g (ds.map some ++ List.replicate n none) (vs.map some ++ List.replicate n none)
  | [], _, .nil, n => ⟨by simp, fun i v h => by
    rw [List.map_nil, List.nil_append, List.getElem?_replicate] at h
    split at h <;> cases h⟩
  | d :: ds, _, .cons (w := w) r t, n => by
    have ih := start_ok t n
    refine ⟨by simp [t.length], fun i v h => ?_⟩
    cases i with
    | zero => simp at h; subst h; exact ⟨w, by simp, r⟩
    | succ i =>
      obtain ⟨w', h1, h2⟩ := ih.at_ i v (by simpa using h)
      exact ⟨w', by simpa using h1, h2⟩
section
variable {c : Glb} {P : Program} {w : World} {mg : Str → Option Value} {base : PySem.Heap} {k : Nat} {N ps : List Str} {Γ : Sg} {U : EV.Env}
theorem cut_le {g : G} {ρ' : List Addr} {S' : Sto} {H' : Hp} (ok : GOk c g) (le : Le g ⟨g.hid, ρ', S', H'⟩) : Le g ⟨g.hid, ρ'.take g.S.length, S'.take g.S.length, H'⟩ := by
  refine ⟨?_, rfl, le.hidk, fun a o h n t => ?_, le.grow⟩
  · obtain ⟨t, e⟩ := le.pre
    have e : g.ρ ++ t = ρ' := e
    rw [← ok.len, ← e, List.take_left]
    exact List.prefix_refl _
  · obtain ⟨h1, h2⟩ := le.keep a o h n t
    exact ⟨h1, fun z => h2 (live_cut (g := ⟨g.hid, ρ', S', H'⟩) z)⟩
/-- a body's end is the call's -/
theorem run_end {g : G} {E : XK} {Q : VK} {r : RS} {U : EV.Env} (ok : GOk c g)
    (out : Out c g (fun cls d _ H' => E cls d H') [] (match r with
      | .nx _ S' => R.ok (Vl.d .non) (S'.take g.S.length)
      | .ret v S' => keepS g.S.length v S'
      | .exc c xs _ S' => .exc c xs (S'.take g.S.length)
      | _ => .stuck) (fun v g' => ∀ w, RepV c g' v w → Q w g'.H)) : OutS c g (fun cls d _ H' => E cls d H') { nx := fun _ H' => Q .non H', rt := Q } r := by
  cases r with
  | nx l S' =>
    intro ρ' H' σ' ok1 le1 lo1
    exact out (ρ'.take g.S.length) H' (gok_cut ok1 _) (cut_le ok le1) .non (.d .non)
  | ret v S' =>
    intro ρ' H' w ok1 le1 rw1
    have out : Out c g (fun cls d _ H' => E cls d H') [] (keepS g.S.length v S') (fun v g' => ∀ w, RepV c g' v w → Q w g'.H) := out
    cases rw1 with
    | d r => exact out (ρ'.take g.S.length) H' (gok_cut ok1 _) (cut_le ok le1) w (.d (Rep.mo (mo_cut ok1 _) _ _ r))
    | @ref n a e =>
      have out : Out c g (fun cls d _ H' => E cls d H') [] (if n < g.S.length then R.ok (Vl.ref n) (S'.take g.S.length) else R.ok (Vl.ref n) S') (fun v g' => ∀ w, RepV c g' v w → Q w g'.H) := out
      split at out
      · rename_i hn
        exact out (ρ'.take g.S.length) H' (gok_cut ok1 _) (cut_le ok le1) _ (.ref (by
          show (ρ'.take g.S.length)[_]? = _
          rw [List.getElem?_take_of_lt hn]; exact e))
      · exact out ρ' H' ok1 le1 _ (.ref e)
    | fnv e => exact out.elim
    | exn e => exact out.elim
    | clo k r => exact out.elim
    | scr h hl r => exact out.elim
  | exc n xs l S' =>
    intro ρ' H' d σ' ok1 le1 lo1 ex
    exact out (ρ'.take g.S.length) H' d (gok_cut ok1 _) (cut_le ok le1) ex
  | bk l S' => exact out.elim
  | ct l S' => exact out.elim
  | stuck => exact out.elim
theorem room_hu {k : Nat} {A : Around} (r : RoomG k A) : A.units + 200 < cLine := by have := r.un; omega
/-- what the making of lambdas wants of a def's code -/
def MkFd (c : Glb) (mg : Str → Option Value) (base : PySem.Heap) (qual : Str) (fd : FuncData) : Prop := ∃ (cc P : Addr), fd.code = .ref cc ∧ LamX.TabB base mg cc P ∧ (P, (qual ++ ".<locals>.") ++ "<lambda>") ∈ c.tabs ∧ ∀ p ∈ c.tabs, p.1 = P → p.2 = (qual ++ ".<locals>.") ++ "<lambda>"
theorem Fun.okXc {CX : CXT} {x qual : Str} {st : Stmt} {f : Addr} {fd : FuncData} {N ps : List Str} {k : Nat} {sp : Sp} {K : PySem.W.Frag} (F : Fun K x qual st f fd) (S : FnScope N ps (defScope st)) (len : ∀ vs H Q E, sp vs H Q E → vs.length = ps.length)
    (hbody : ∀ (cdv : Value) (A : Around) (outer : List PySem.Env) (s : Shared) (H : Hp) (vs : List V) (Q : VK) (E : XK), fd.code = cdv → RoomG k (A.deeper (envOfC qual (defScope st) s.heap.objs.size f cdv)) → sp vs H Q E →
      ∃ t, PSs (cxOf CX P w K mg base N qual (defScope st) f cdv A outer s H E) (defBody st) t ∧ t { nx := fun _ H' => Q .non H', rt := Q } (start N vs) H) : FnG P w K mg base CX (k + 1) f fd ps sp := by
  obtain ⟨oc, od, kV, doc, pm, an, cdv, ct, osl, rfl, lk, hcd⟩ := F.ex
  exact fn_ofG lk hcd S len fun A outer s H vs Q E hr hsp => hbody cdv A outer s H vs Q E rfl hr hsp
theorem fn_okE {T : List Fn} {sub : Nat → Nat → Option Bool} {wf n i : Nat} {F : Fn} {x qual : Str} {st : Stmt} {f : Addr} {fd : FuncData} (S : SgOk c P w mg base k Γ ⟨callN T sub wf n, wf, sub⟩) (Fu : Fun c.K x qual st f fd) (FS : FnScope N ps (defScope st))
    (hF : T[i]? = some F) (hnp : F.np = ps.length) (hnl : F.nl = N.length) (hex : c.ex = none) (hmk : Γ.mn ≠ [] → MkFd c mg base qual fd) (hrd : rdSs N F.body Γ (defScope st) (defBody st) = true) :
    FnG P w c.K mg base (L2.CX P w) (k + 1) f fd ps (spF c ⟨callN T sub wf (n + 1), wf, sub⟩ i ps.length) := by
  refine Fun.okXc Fu FS (fun vs H Q E h => ?_) (fun cdv A outer s H vs Q E hcdv hr h => ?_)
  · obtain ⟨g, ds, _, _, rs, hl, _⟩ := h
    rw [← rs.length, hl]
  · obtain ⟨g, ds, rfl, ok, rs, hl, out⟩ := h
    refine ⟨tSs c ⟨callN T sub wf n, wf, sub⟩ (fun cls d _ H' => E cls d H') F.body, rdSs_snd F.body c ⟨callN T sub wf n, wf, sub⟩ Γ S (defScope st) (defBody st) _ FS.kind ⟨rfl, rfl, rfl, rfl, rfl, rfl, FS.nd, rfl, fun _ => rfl, fun _ _ => rfl, fun _ => hr, room_hu hr, hr.gd, fun _ => hex, (fun a j e => by rw [hex] at e; cases e), fun h1 _ => ⟨?mk, ?cl⟩⟩ PassesOwn.leaving ⟨rfl, rfl⟩ hrd _ (takes_of rfl rfl rfl rfl), ?_⟩
    case mk =>
      obtain ⟨cc, P', e1, e2, e3, e4⟩ := hmk h1
      exact ⟨cc, P', hcdv.symm.trans e1, e2, e3, e4⟩
    case cl =>
      exact fun y a e => rfl
    refine ⟨g, ds.map some ++ List.replicate (N.length - ds.length) none, rfl, ok, ?_, ?_⟩
    · unfold L2.start
      rw [← rs.length]
      exact start_ok rs _
    · have out : Out c g (fun cls d _ H' => E cls d H') [] (callN T sub wf (n + 1) i ds g.S) (fun v g' => ∀ w, RepV c g' v w → Q w g'.H) := out
      simp only [callN, hF, runF] at out
      rw [if_pos (by rw [hl, hnp]), hnl, hnp, ← hl] at out
      exact run_end (U := ⟨callN T sub wf n, wf, sub⟩) ok out
/-! ### the text's defs -/
structure Def where
  nm : String
  ps : List String
  N : List String
  fn : Fn
  st : Stmt
  mkl : Bool
def sgOf (ds : List Def) (blt : List String) (gv : List (String × D)) (cls : List String) (rz : List Nat) (lmk : Nat → LamI → Bool) : Sg := ⟨ds.map fun d => (d.nm, d.ps.length), blt, gv, cls, rz, false, [], lmk⟩
def nmsOf (l : List String) : List Str := l.map Str.ofString
def fnScB (N P : List Str) (sc : Scope) : Bool :=
  decide (sc.kind = .function) && !sc.isCoroutine && !sc.isGenerator && decide N.Nodup && decide (N.take P.length = P) && P.all (fun x => locB sc x) && sc.names.all (fun y => decide (y.2 ≠ .free))
theorem fnSc_ok {N P : List Str} {sc : Scope} (h : fnScB N P sc = true) : FnScope N P sc := by
  unfold fnScB at h
  simp only [Bool.and_eq_true, decide_eq_true_eq, List.all_eq_true] at h
  obtain ⟨⟨⟨⟨⟨⟨h1, h2⟩, h3⟩, h4⟩, h5⟩, h6⟩, h7⟩ := h
  refine ⟨h1, bnot h2, bnot h3, h4, h5, fun x hx => ?_, h7⟩
  have q := h6 x hx
  unfold locB at q
  split at q
  · exact .inl (by assumption)
  · exact .inr (by assumption)
  · cases q
def mnOf (d : Def) : List (Str × NameKind) := if d.mkl then (defScope d.st).names else []
def defB (Γ : Sg) (d : Def) : Bool := fnScB (nmsOf d.N) (nmsOf d.ps) (defScope d.st) && decide (d.fn.np = d.ps.length) && decide (d.fn.nl = d.N.length) && rdSs (nmsOf d.N) d.fn.body { Γ with mn := mnOf d } (defScope d.st) (defBody d.st)
def DefOk (c : Glb) (mg : Str → Option Value) (base : PySem.Heap) (d : Def) (a : Addr) : Prop := ∃ fd, Fun c.K d.nm d.nm d.st a fd ∧ mg (d.nm : Str) = some (.ref a) ∧ Binds c.K fd (nmsOf d.ps) [] ∧ (d.mkl = true → MkFd c mg base d.nm fd)
def DefsOk (c : Glb) (mg : Str → Option Value) (base : PySem.Heap) : List Def → List Addr → Prop
  | [], [] => True
  | d :: ds, a :: as => DefOk c mg base d a ∧ DefsOk c mg base ds as
  | _, _ => False
theorem mnOf_mk {d : Def} (hm : mnOf d ≠ []) : d.mkl = true := by
  by_cases z : d.mkl = true
  · exact z
  · unfold mnOf at hm
    rw [if_neg z] at hm
    exact absurd rfl hm
theorem SgOk.mn (S : SgOk c P w mg base k Γ U) (m : List (Str × NameKind)) : SgOk c P w mg base k { Γ with mn := m } U := ⟨S.fn, S.fa, S.ar, S.blt, S.cl, S.sb, S.rz, S.gv, S.lam, S.lmk, S.pl⟩
theorem SgOk.lmk0 (S : SgOk c P w mg base k Γ U) : SgOk c P w mg base k { Γ with mn := [], lmk := fun _ _ => false } U := ⟨S.fn, S.fa, S.ar, S.blt, S.cl, S.sb, S.rz, S.gv, S.lam, (fun fl I h => by cases h), S.pl⟩
theorem DefsOk.at_ {c : Glb} {mg : Str → Option Value} {base : PySem.Heap} : ∀ {ds : List Def} {as : List Addr} {i : Nat} {d : Def}, DefsOk c mg base ds as → ds[i]? = some d → ∃ a, as[i]? = some a ∧ DefOk c mg base d a
  | [], [], i, d, _, h => by simp at h
  | _ :: _, [], _, _, h, _ => h.elim
  | [], _ :: _, _, _, h, _ => h.elim
  | x :: ds, a :: as, 0, d, h, e => by simp at e; subst e; exact ⟨a, rfl, h.1⟩
  | x :: ds, a :: as, i + 1, d, h, e => by
    obtain ⟨b, h1, h2⟩ := DefsOk.at_ (i := i) h.2 (by simpa using e)
    exact ⟨b, by simpa using h1, h2⟩
theorem DefsOk.len {c : Glb} {mg : Str → Option Value} {base : PySem.Heap} : ∀ {ds : List Def} {as : List Addr}, DefsOk c mg base ds as → ds.length = as.length
  | [], [], _ => rfl
  | _ :: _, [], h => h.elim
  | [], _ :: _, h => h.elim
  | x :: ds, a :: as, h => by simp [DefsOk.len h.2]
def fnsOf (ds : List Def) : List Fn := ds.map (·.fn)
end
end EV
end

section
set_option Elab.async false
set_option linter.all false
set_option maxRecDepth 100000
set_option maxHeartbeats 4000000
/-! EV23: a closure called -/
namespace EV
open PySem PySem.Spec PyProof.Rows L2
theorem lk_none {l : List (Str × Value)} {x : Str} (h : ∀ v, (x, v) ∉ l) : l.lookup x = none := by
  cases e : l.lookup x with
  | none => rfl
  | some v => exact absurd (PySem.mem_of_lookup e) (h v)
theorem zip_lk : ∀ {ps : List Str} {us : List Value} {i : Nat} {x : Str} {u : Value}, ps.Nodup → ps[i]? = some x → us[i]? = some u → (ps.zip us).reverse.lookup x = some u
  | [], _, _, _, _, _, h, _ => by simp at h
  | _ :: _, [], _, _, _, _, _, h => by simp at h
  | p :: ps, v :: us, 0, x, u, nd, h1, h2 => by
    simp at h1 h2
    subst h1
    subst h2
    have hn : (ps.zip us).reverse.lookup p = none := lk_none fun w hw => (List.nodup_cons.mp nd).1 (List.of_mem_zip (List.mem_reverse.mp hw)).1
    rw [List.zip_cons_cons, List.reverse_cons, List.lookup_append, hn]
    simp
  | p :: ps, v :: us, i + 1, x, u, nd, h1, h2 => by
    have e : (ps.zip us).reverse.lookup x = some u := zip_lk (i := i) (List.nodup_cons.mp nd).2 (by simpa using h1) (by simpa using h2)
    rw [List.zip_cons_cons, List.reverse_cons, List.lookup_append, e] <;> rfl
/-- a lambda that can be run -/
structure LamTx (Γ : Sg) (I : LamI) (pn : List Str) (l : LE) (F : Fn) : Prop where
  nd : (I.caps ++ pn).Nodup
  kind : I.scope.kind = .function
  co : I.scope.isCoroutine = false
  gen : I.scope.isGenerator = false
  own : ∀ y ∈ I.scope.names, y.2 ≠ .cell
  free : ∀ y, I.scope.names.lookup y = some .free → y ∈ I.caps
  cap : ∀ y ∈ I.caps, I.scope.names.lookup y = some .free
  par : ∀ y ∈ pn, I.scope.names.lookup y = some .local
  bind : (I.dfl = 0 ∧ ∀ (name qual : Str) (cells : List (Str × Addr)) (doc pm cv ctv : Value) (us : List Value), us.length = pn.length → bindArgs (PySem.W.kdv_fn name qual I.params (.expr I.body) I.scope cells .none doc pm cv ctv) ⟨us, []⟩ = pure (pn.zip us)) ∨
    (I.dfl ≠ 0 ∧ pn = [] ∧ ∃ qn : List Str, (∀ y ∈ qn, I.scope.names.lookup y = some .local) ∧ ∀ (name qual : Str) (cells : List (Str × Addr)) (t : Addr) (doc pm cv ctv : Value) (its : List Value), its.length = I.dfl → ∃ k, bindArgs (PySem.W.kdv_fn name qual I.params (.expr I.body) I.scope cells (.ref t) doc pm cv ctv) ⟨[], []⟩ = seqItems? (.ref t) >>= k ∧ k (some its.toArray) = pure (qn.zip its))
  np : F.np = I.caps.length + pn.length
  nl : F.nl = I.caps.length + pn.length
  body : F.body = .cons (.ret l) .nil
  rd : ok Γ (I.caps ++ pn) l 0 I.scope I.body = true
theorem vals_get : ∀ {ws : List V} {us : List Value} {i : Nat} {v : V} {u : Value}, Vals ws us → ws[i]? = some v → us[i]? = some u → RelV v u
  | _, _, _, _, _, .nil, h, _ => by simp at h
  | _, _, 0, _, _, .cons r t, h1, h2 => by simp at h1 h2; subst h1; subst h2; exact r
  | _, _, i + 1, _, _, .cons r t, h1, h2 => vals_get (i := i) t (by simpa using h1) (by simpa using h2)
theorem vals_get1 : ∀ {ws : List V} {us : List Value} {i : Nat} {v : V}, Vals ws us → ws[i]? = some v → ∃ u, us[i]? = some u
  | _, _, _, _, .nil, h => by simp at h
  | _, _, 0, _, .cons r t, h1 => ⟨_, rfl⟩
  | _, _, i + 1, _, .cons r t, h1 => by
    obtain ⟨u, e⟩ := vals_get1 (i := i) t (by simpa using h1)
    exact ⟨u, by simpa using e⟩
section
variable {c : Glb} {P : Program} {w : World} {mg : Str → Option Value} {base : PySem.Heap} {k : Nat} {Γ : Sg}
theorem le_back {g : G} {ts : List (Addr × Obj)} {ρ' : List Addr} {S' : Sto} {H' : Hp} (ok : GOk c g) (ht : ∀ a o, ts.lookup a = some o → g.H a = some (exO a o)) (hn : ∀ a o, ts.lookup a = some o → H' a = none)
    (le : Le ⟨g.hid, g.ρ, g.S, subX g.H ts⟩ ⟨g.hid, ρ', S', H'⟩) (ok' : GOk c ⟨g.hid, ρ', S', addX H' ts⟩) : Le g ⟨g.hid, ρ', S', addX H' ts⟩ := by
  refine ⟨le.pre, rfl, fun a ha => ?_, fun a o e nl nt => ?_, fun a e => ?_⟩
  · have z : ts.lookup a = none := by
      rcases opt_cases (ts.lookup a) with z | ⟨p, z⟩
      · exact z
      · have q := ht a p z
        rcases ok.hid a ha with ⟨_, e⟩ | ⟨_, e⟩ | ⟨_, e⟩ <;> rw [e] at q <;> cases q
    have q : H' a = subX g.H ts a := le.hidk a ha
    show addX H' ts a = g.H a
    rw [addX_out z, q, subX_out z]
  · rcases opt_cases (ts.lookup a) with z | ⟨p, z⟩
    · obtain ⟨q1, q2⟩ := le.keep a o (by show subX g.H ts a = _; rw [subX_out z]; exact e) nl nt
      exact ⟨by show addX H' ts a = _; rw [addX_out z]; exact q1, q2⟩
    · have q := ht a p z
      rw [e] at q
      cases q
      refine ⟨addX_in z, fun lv => ?_⟩
      have e2 : addX H' ts a = some (exO a p) := addX_in z
      rcases ok'.lv a lv with ⟨_, q⟩ | ⟨_, q⟩ | ⟨_, q⟩ <;> rw [show (⟨g.hid, ρ', S', addX H' ts⟩ : G).H a = _ from e2] at q <;> cases q
  · rcases opt_cases (ts.lookup a) with z | ⟨p, z⟩
    · show addX H' ts a ≠ none
      rw [addX_out z]
      exact le.grow a (by show subX g.H ts a ≠ none; rw [subX_out z]; exact e)
    · show addX H' ts a ≠ none
      rw [addX_in z]
      simp
end
end EV
end

section
set_option Elab.async false
set_option linter.all false
set_option maxRecDepth 100000
set_option maxHeartbeats 4000000
/-! EV24: a closure's call, by its body's reading -/
namespace EV
open PySem PySem.Spec PyProof.Rows L2
theorem RepBs.length {c : Glb} {g : G} : ∀ {vs : List Vl} {ws : List V}, RepBs c g vs ws → vs.length = ws.length
  | _, _, .nil => rfl
  | _, _, .cons _ t => by simp [RepBs.length t]
theorem vals_len : ∀ {ws : List V} {us : List Value}, Vals ws us → ws.length = us.length
  | _, _, .nil => rfl
  | _, _, .cons _ t => by simp [vals_len t]
section
variable {c : Glb} {P : Program} {w : World} {mg : Str → Option Value} {base : PySem.Heap} {k : Nat} {Γ : Sg}
theorem lam_okE {T : List Fn} {sub : Nat → Nat → Option Bool} {wf n fl : Nat} {F : Fn} {I : LamI} {pn : List Str} {l : LE} (S : SgOk c P w mg base k Γ ⟨callN T sub wf n, wf, sub⟩) (hh : Γ.hot = false) (hex : c.ex = none) (hca : ∀ m, ∃ cls, c.ca m = some cls) (hF : T[fl]? = some F) (hmn : Γ.mn = []) (LT : LamTx Γ I pn l F)
    {g : G} {cs ds : List Vl} {f c' : Addr} {qual : Str} {cells : List (Str × Addr)} {pm ctv : Value} {ts : List (Addr × Obj)} {us xs : List Value} {ws vs : List V} {A : Around} {outer : List PySem.Env} {s : Shared} {Q : VK} {E : XK}
    (ok : GOk c g) (C : CloAt c g fl f c' qual I cells pm ctv ts us ws) (rc : RepBs c g cs ws) (rd : RepBs c g ds vs) (rx : Vals vs xs) (hr : RoomG (k + 1) A) (e0 : Env0 P w c.K mg base A outer s g.H)
    (out : Out c g (fun cls d _ H' => E cls d H') [] (callN T sub wf (n + 1) fl (cs ++ ds) g.S) (fun v g' => ∀ w, RepV c g' v w → Q w g'.H)) :
    codeAny (model P w) A (.call (.ref f) ⟨xs, []⟩) (CR (L2.CX P w) outer P w g.H s Q E) s := by
  simp only [callN, hF, runF] at out
  have l1 : cs.length = I.caps.length := rc.length.trans C.ln
  have l2 : cs.length + ds.length = F.np := by
    by_cases e : (cs ++ ds).length = F.np
    · simpa using e
    · rw [if_neg e] at out; exact out.elim
  rw [if_pos (by simpa using l2), LT.body, LT.nl, LT.np, Nat.sub_self] at out
  have l3 : ds.length = pn.length := by have := LT.np; omega
  have hts : ∀ a o, ts.lookup a = some o → g.H a = some (exO a o) ∧ s.heap.get? a = some o ∧ a ∉ frs outer := fun a o z => by
    have q := C.tk a o z
    refine ⟨q, (e0.hok a _ q).1, fun m => ?_⟩
    have := e0.frf a m
    rw [q] at this
    cases this
  have me : Me g.H (subX g.H ts) := me_sub fun a o z => (hts a o z).1
  have ok0 : GOk c ⟨g.hid, g.ρ, g.S, subX g.H ts⟩ := gok_me ok me (tabs_sub e0.hok ok.tabs fun a o z => ⟨(hts a o z).1, (hts a o z).2.1, C.tc a o z⟩)
  have e1 : Env0 P w c.K mg base A outer s (subX g.H ts) := ⟨e0.frames, e0.mod, fun b o z => by
    obtain ⟨q1, q2⟩ := e0.bs b o z
    refine ⟨q1, ?_⟩
    unfold subX
    split
    · rfl
    · exact q2, e0.bsz, e0.funs, fun b z => by
    unfold subX
    split
    · rfl
    · exact e0.frf b z, hok_sub e0.hok fun a o z => (hts a o z).1, e0.bare⟩
  have lim : s.heap.NoLimit := e0.mod.nolimit.keeps fun b o e => (e0.bs b o e).1
  obtain ⟨dV, doc, fo0, hdv⟩ := C.fo
  have fo : s.heap.get? f = some _ := (e0.hok f _ fo0).1
  obtain ⟨⟨oc, fvs, t, hoc, hdc, hvc⟩, _, _⟩ := e0.hok c' _ C.co
  have ndc : I.caps.Nodup := (List.nodup_append.mp LT.nd).1
  have ndp : pn.Nodup := (List.nodup_append.mp LT.nd).2.1
  have lw : ws.length = I.caps.length := C.ln
  have lv : vs.length = pn.length := by rw [← rd.length]; exact l3
  have lx : xs.length = pn.length := by rw [← vals_len rx]; exact lv
  have hb : ∃ binds : List (Str × Value), BindsTo s (PySem.W.kdv_fn "<lambda>" qual I.params (.expr I.body) I.scope cells dV doc pm (.ref c') ctv) ⟨xs, []⟩ binds ∧ (∀ x ∈ binds, I.scope.names.lookup x.1 = some .local) ∧ ∀ (i : Nat) (x : Str) (u : Value), pn[i]? = some x → xs[i]? = some u → binds.reverse.lookup x = some u := by
    rcases LT.bind with ⟨hz, hb⟩ | ⟨hz, hp, qn, hq, hb⟩
    · rcases hdv with ⟨_, rfl⟩ | ⟨hn, _⟩
      · exact ⟨pn.zip xs, BindsTo.of_eq (hb _ _ _ _ _ _ _ xs lx), fun x hx => LT.par _ (List.of_mem_zip hx).1, fun i x u h1 h2 => zip_lk ndp h1 h2⟩
      · exact absurd hz hn
    · rcases hdv with ⟨hn, _⟩ | ⟨_, t, o, its, n, rfl, h1, h2, h3⟩
      · exact absurd hn hz
      · obtain ⟨k, k1, k2⟩ := hb "<lambda>" qual cells t doc pm (.ref c') ctv its h3
        subst hp
        have ex : xs = [] := List.length_eq_zero_iff.mp lx
        subst ex
        exact ⟨qn.zip its, BindsTo.of_defaults rfl (e0.hok t _ h1).1 h2 k1 k2, fun x hx => hq _ (List.of_mem_zip hx).1, fun i x u h1 h2 => by simp at h1⟩
  obtain ⟨binds, hb1, hb2, hb3⟩ := hb
  refine codeAny_mono (lam_run (Q := fun v H' => (∀ a o, ts.lookup a = some o → H' a = none) → Q v (addX H' ts)) (E := fun cls d H' => (∀ a o, ts.lookup a = some o → H' a = none) → E cls d (addX H' ts)) (N := I.caps ++ pn) (vs := ws ++ vs) (t := tEv c ⟨callN T sub wf n, wf, sub⟩ (fun cls d _ H' => (∀ a o, ts.lookup a = some o → H' a = none) → E cls d (addX H' ts)) l) hr e1 lim fo ⟨c', oc, fvs, t, rfl, hoc, hdc, hvc⟩ LT.kind LT.co LT.gen LT.own
    hb1 hb2 C.inj (fun y hy => ?_) (fun y a hy => ?_) (by simp [lw, lv]) (fun i y v h1 h2 hv => ?_) ?_ ?_) fun r s' hq => cr_add hq hts
  · obtain ⟨i, hi⟩ := List.getElem?_of_mem (LT.free y hy)
    obtain ⟨a, o, u, q, _⟩ := C.cap i y hi
    exact ⟨a, q⟩
  · obtain ⟨o, v, q1, q2⟩ := C.cel y a hy
    exact ⟨⟨v, o, (hts a o q1).2.1, q2⟩, subX_in q1⟩
  · by_cases hi : i < I.caps.length
    · rw [List.getElem?_append_left hi] at h1
      rw [List.getElem?_append_left (by rw [lw]; exact hi)] at h2
      obtain ⟨a, o, u, q1, q2, q3, q4⟩ := C.cap i y h1
      exact ⟨u, vals_get C.rv h2 q4, .inr ⟨LT.cap y (List.mem_of_getElem? h1), a, q1, o, (hts a o q2).2.1, q3⟩⟩
    · have hi : I.caps.length ≤ i := by omega
      rw [List.getElem?_append_right hi] at h1
      rw [List.getElem?_append_right (by rw [lw]; exact hi), lw] at h2
      obtain ⟨u, hu⟩ := vals_get1 rx h2
      exact ⟨u, vals_get rx h2 hu, .inl ⟨LT.par y (List.mem_of_getElem? h1), hb3 _ _ _ h1 hu⟩⟩
  · refine ((ok_snd S l 0 I.scope I.scope I.body _ ⟨rfl, rfl, rfl, rfl, rfl, rfl, LT.nd, rfl, fun _ => rfl, fun x e => absurd rfl (LT.own _ (PySem.mem_of_lookup e)), fun _ => (hr.deeper _), room_hu (hr.deeper _), (hr.deeper _).gd, fun _ => hex, (fun a j e => by rw [hex] at e; cases e), fun h1 => absurd hmn h1⟩ LT.rd) _ (takes_of rfl rfl rfl rfl)).1 rfl
  · refine ⟨⟨g.hid, g.ρ, g.S, subX g.H ts⟩, (cs ++ ds).map some, rfl, ok0, ?_, ?_⟩
    · have q := start_ok ((rc.me me).vs.app (rd.me me).vs) 0
      simp only [List.replicate_zero, List.append_nil] at q
      unfold L2.start
      have e : (I.caps ++ pn).length - (ws ++ vs).length = 0 := by simp [lw, lv]
      rw [e, List.replicate_zero, List.append_nil]
      exact q
    · simp only [List.replicate_zero, List.append_nil, evSs, evS] at out
      show Out c ⟨g.hid, g.ρ, g.S, subX g.H ts⟩ _ _ (evE ⟨callN T sub wf n, wf, sub⟩ l ((cs ++ ds).map some) g.S) _
      cases hev : evE ⟨callN T sub wf n, wf, sub⟩ l ((cs ++ ds).map some) g.S with
      | ok v S' =>
        rw [hev] at out
        simp only [R.st_ok] at out
        intro ρ' H' ok1 le1 w rw1 hn
        cases ht : take S' v with
        | none => rw [ht] at out; exact out.elim
        | some p =>
          rw [ht] at out
          obtain ⟨o2, l2, r2⟩ := take_ok ok1 rw1 ht
          have out : Out c g (fun cls d _ H' => E cls d H') [] (R.ok (.d p.1) (p.2.take g.S.length)) (fun v g' => ∀ w, RepV c g' v w → Q w g'.H) := out
          have o3 := gok_cut o2 g.S.length
          have le3 := cut_le ok0 (le1.trans l2)
          have o4 := gok_me o3 (me_add hn) (tabs_add o3.tabs hn)
          exact out (ρ'.take g.S.length) (addX H' ts) o4 (le_back ok (fun a o z => (hts a o z).1) hn le3 o4) w (.d (Rep.me (me_add hn) _ _ (Rep.mo (mo_cut o2 _) _ _ r2)))
      | exc m es S' =>
        rw [hev] at out
        simp only [R.st_exc] at out
        intro ρ' H' d ok1 le1 ex
        have out : Out c g (fun cls d _ H' => E cls d H') [] (R.exc m es (S'.take g.S.length) : R Vl) (fun v g' => ∀ w, RepV c g' v w → Q w g'.H) := out
        have o3 := gok_cut ok1 g.S.length
        have le3 := cut_le ok0 le1
        obtain ⟨cls, hcls⟩ := hca m
        refine ⟨cls, hcls, fun hn => ?_⟩
        have o4 := gok_me o3 (me_add hn) (tabs_add o3.tabs hn)
        obtain ⟨cls', h1, h2⟩ := out (ρ'.take g.S.length) (addX H' ts) d o4 (le_back ok (fun a o z => (hts a o z).1) hn le3 o4) ex
        rw [hcls] at h1
        cases h1
        exact h2
      | stuck => rw [hev] at out; exact out.elim
end
end EV
end

section
set_option Elab.async false
set_option linter.all false
set_option maxRecDepth 100000
set_option maxHeartbeats 4000000
/-! EV25: all defs and lambdas of a text -/
namespace EV
open PySem PySem.Spec PyProof.Rows L2
section
variable {c : Glb} {P : Program} {w : World} {mg : Str → Option Value} {base : PySem.Heap} {k : Nat} {N ps : List Str} {Γ : Sg}
theorem all_ok {ds : List Def} {as : List Addr} {blt : List String} {gv : List (String × D)} {cls : List String} {rz : List Nat} {sub : Nat → Nat → Option Bool} {wf : Nat} {ls : List Fn} {lmk : Nat → LamI → Bool} (hca : ∀ m, ∃ cls, c.ca m = some cls) (hlm : ∀ fl I, lmk fl I = true → c.lam fl I) (hL : ∀ fl I, c.lam fl I → ∃ pn l F, (fnsOf ds ++ ls)[fl]? = some F ∧ LamTx { sgOf ds blt gv cls rz lmk with mn := [], lmk := fun _ _ => false } I pn l F) (hD : DefsOk c mg base ds as) (hfa : c.fa = fun i => as[i]?) (hB : ds.all (defB (sgOf ds blt gv cls rz lmk)) = true)
    (hex : c.ex = none) (hblt : ∀ x ∈ blt, mg (x : Str) = none)
    (hcl : ∀ (i : Nat) (x : String), cls[i]? = some x → ∃ (cv : Value) (v : V), c.ca i = some cv ∧ RelV v cv ∧ (∀ u, RelV v u → u = cv) ∧ (mg (x : Str) = some cv ∨ (mg (x : Str) = none ∧ bootBuiltins (x : Str) = some cv ∧ (x : Str) ≠ "__name__")))
    (hsb : ∀ i j b, sub i j = some b → ∃ (D : Addr) (cv : Value), c.ca i = some (.ref D) ∧ c.ca j = some cv ∧ PySem.W.exmOne c.K (.ref D) cv = some b ∧ PySem.W.kitOne c.K (.ref D) cv = some b ∧ ExcC c.K D)
    (hrz : ∀ i x, i ∈ rz → cls[i]? = some x → ∃ (C : Addr) (B newId initId : String) (bmB : List Value), c.ca i = some (.ref C) ∧ mg (x : Str) = some (.ref C) ∧ PySem.W.keepIn c.K (.ref C) = true ∧ ExcBaseFacts B newId initId bmB ∧ PySem.W.excIn c.K C bmB newId = true ∧ PySem.W.subIn c.K (.ref C) (.type "BaseException") = some true ∧ PySem.W.typeIn c.K (.ref C) = some (.type "type")) (hgv : ∀ (x : String) (d : D), (x, d) ∈ gv → ∃ (u : Value) (v : V), mg (x : Str) = some u ∧ RelV v u ∧ ∀ L H, Rep c.K L H d v) :
    ∀ n, SgOk c P w mg base n (sgOf ds blt gv cls rz lmk) ⟨callN (fnsOf ds ++ ls) sub wf n, wf, sub⟩ := by
  have getD : ∀ {f : Nat} {x : String} {np : Nat}, (sgOf ds blt gv cls rz lmk).fns[f]? = some (x, np) → ∃ d, ds[f]? = some d ∧ d.nm = x ∧ d.ps.length = np := fun {f x np} h => by
    have h : (ds.map fun d => (d.nm, d.ps.length))[f]? = some (x, np) := h
    rw [List.getElem?_map, Option.map_eq_some_iff] at h
    obtain ⟨d, hd, e⟩ := h
    cases e
    exact ⟨d, hd, rfl, rfl⟩
  have back : ∀ f a, c.fa f = some a → ∃ p, (sgOf ds blt gv cls rz lmk).fns[f]? = some p := fun f a h => by
    rw [hfa] at h
    have hf : f < as.length := (List.getElem?_eq_some_iff.mp h).1
    rw [← hD.len] at hf
    exact ⟨(ds[f].nm, ds[f].ps.length), by show (ds.map fun d => (d.nm, d.ps.length))[f]? = _; rw [List.getElem?_map, List.getElem?_eq_getElem hf]; rfl⟩
  have chk : ∀ {f : Nat} {d : Def}, ds[f]? = some d → defB (sgOf ds blt gv cls rz lmk) d = true := fun {f d} h => by
    rw [List.all_eq_true] at hB
    exact hB d (List.mem_of_getElem? h)
  have ar : ∀ n (f : Nat) (x : String) (np : Nat) (vs : List Vl) (S : Sto), (sgOf ds blt gv cls rz lmk).fns[f]? = some (x, np) → vs.length ≠ np → callN (fnsOf ds ++ ls) sub wf n f vs S = .stuck := fun n f x np vs S h hne => by
    cases n with
    | zero => rfl
    | succ n =>
      obtain ⟨d, hd, rfl, rfl⟩ := getD h
      have q := chk hd
      unfold defB at q
      simp only [Bool.and_eq_true, decide_eq_true_eq] at q
      have hT : (fnsOf ds ++ ls)[f]? = some d.fn := by
        have h0 : (fnsOf ds)[f]? = some d.fn := by unfold fnsOf; rw [List.getElem?_map, hd]; rfl
        rw [List.getElem?_append_left (List.getElem?_eq_some_iff.mp h0).1]; exact h0
      simp only [callN, hT, runF]
      rw [if_neg (by rw [q.1.1.2]; exact hne)]
  have pl : ∀ n f vs S v S', callN (fnsOf ds ++ ls) sub wf n f vs S = .ok v S' → plainV v = true := fun n f vs S v S' h => by
    cases n with
    | zero => cases h
    | succ n =>
      simp only [callN] at h
      split at h
      · unfold runF at h
        split at h
        · split at h
          · cases h; rfl
          · unfold keepS at h
            split at h
            · cases h; rfl
            · split at h <;> (cases h; rfl)
            · cases h
          · cases h
          · cases h
        · cases h
      · cases h
  intro n
  induction n with
  | zero =>
    refine ⟨fun f x np h => ?_, back, ar 0, hblt, hcl, hsb, hrz, hgv, (fun fl I g cs ds f c' qual cells pm ctv ts us xs ws vs A outer s Q E _ _ _ _ _ _ _ out => out.elim), hlm, pl 0⟩
    obtain ⟨d, hd, rfl, rfl⟩ := getD h
    obtain ⟨a, ha, fd, Fu, hm, hb, hmk⟩ := hD.at_ hd
    refine ⟨a, fd, nmsOf d.ps, ⟨fun vs H Q E ⟨g, xs, _, _, _, _, o⟩ => o.elim, fun A outer s H args us vs Q E hr he hbd hv ⟨g, xs, _, _, _, _, o⟩ => o.elim⟩, hm, Fu.kp, hb, by rw [hfa]; exact ha⟩
  | succ n ih =>
    refine ⟨fun f x np h => ?_, back, ar (n + 1), hblt, hcl, hsb, hrz, hgv, fun fl I g cs dd f c' qual cells pm ctv ts us xs ws vs A outer s Q E ok C rc rd rx hr e0 out => ?_, hlm, pl (n + 1)⟩
    rotate_left
    · obtain ⟨pn, l, F, hF, LT⟩ := hL fl I C.lam
      exact lam_okE ih.lmk0 rfl hex hca hF rfl LT ok C rc rd rx hr e0 out
    obtain ⟨d, hd, rfl, rfl⟩ := getD h
    obtain ⟨a, ha, fd, Fu, hm, hb, hmk⟩ := hD.at_ hd
    have q := chk hd
    unfold defB at q
    simp only [Bool.and_eq_true, decide_eq_true_eq] at q
    obtain ⟨⟨⟨q1, q2⟩, q3⟩, q4⟩ := q
    have hT : (fnsOf ds ++ ls)[f]? = some d.fn := by
        have h0 : (fnsOf ds)[f]? = some d.fn := by unfold fnsOf; rw [List.getElem?_map, hd]; rfl
        rw [List.getElem?_append_left (List.getElem?_eq_some_iff.mp h0).1]; exact h0
    have e1 : d.ps.length = (nmsOf d.ps).length := by simp [nmsOf]
    have e2 : d.N.length = (nmsOf d.N).length := by simp [nmsOf]
    refine ⟨a, fd, nmsOf d.ps, ?_, hm, Fu.kp, hb, by rw [hfa]; exact ha⟩
    rw [e1]
    have r := fn_okE (N := nmsOf d.N) (ih.mn (mnOf d)) Fu (fnSc_ok q1) hT (q2.trans e1) (q3.trans e2) hex (fun z => hmk (mnOf_mk z)) q4
    exact r
end
end EV
end

section
set_option Elab.async false
set_option linter.all false
set_option maxRecDepth 100000
set_option maxHeartbeats 4000000
/-! EV28: does a lambda of the text read as told? -/
namespace EV
open PySem PySem.Spec PyProof.Rows L2
theorem seqNone : seqItems? Value.none = pure none := rfl
theorem bind0 {name qual : Str} {body : Expr} {scope : Scope} {cells : List (Str × Addr)} {doc pm cv ctv : Value} : bindArgs (PySem.W.kdv_fn name qual ⟨[], [], none, [], [], none, []⟩ (.expr body) scope cells .none doc pm cv ctv) ⟨[], []⟩ = pure [] := rfl
theorem bind1 {name qual : Str} {a : Arg} {body : Expr} {scope : Scope} {cells : List (Str × Addr)} {doc pm cv ctv u : Value} : bindArgs (PySem.W.kdv_fn name qual ⟨[], [a], none, [], [], none, []⟩ (.expr body) scope cells .none doc pm cv ctv) ⟨[u], []⟩ = pure [(a.arg, u)] := by
  unfold bindArgs
  simp [seqNone, List.lookup_cons]
theorem bind2 {name qual : Str} {a b : Arg} {body : Expr} {scope : Scope} {cells : List (Str × Addr)} {doc pm cv ctv u v : Value} (h : a.arg ≠ b.arg) : bindArgs (PySem.W.kdv_fn name qual ⟨[], [a, b], none, [], [], none, []⟩ (.expr body) scope cells .none doc pm cv ctv) ⟨[u, v], []⟩ = pure [(a.arg, u), (b.arg, v)] := by
  have h1 : (b.arg == a.arg) = false := by simpa using h.symm
  unfold bindArgs
  simp [seqNone, h1, List.lookup_cons]
theorem bind3 {name qual : Str} {a b d : Arg} {body : Expr} {scope : Scope} {cells : List (Str × Addr)} {doc pm cv ctv u v w : Value} (h : a.arg ≠ b.arg) (h2 : a.arg ≠ d.arg) (h3 : b.arg ≠ d.arg) : bindArgs (PySem.W.kdv_fn name qual ⟨[], [a, b, d], none, [], [], none, []⟩ (.expr body) scope cells .none doc pm cv ctv) ⟨[u, v, w], []⟩ = pure [(a.arg, u), (b.arg, v), (d.arg, w)] := by
  have h1 : (b.arg == a.arg) = false := by simpa using h.symm
  have h4 : (d.arg == a.arg) = false := by simpa using h2.symm
  have h5 : (d.arg == b.arg) = false := by simpa using h3.symm
  unfold bindArgs
  simp [seqNone, h1, h4, h5, List.lookup_cons]
theorem bindD {name qual : Str} {a : Arg} {e : Expr} {body : Expr} {scope : Scope} {cells : List (Str × Addr)} {t : Addr} {doc pm cv ctv u : Value} : ∃ k, bindArgs (PySem.W.kdv_fn name qual ⟨[], [a], none, [], [], none, [e]⟩ (.expr body) scope cells (.ref t) doc pm cv ctv) ⟨[], []⟩ = seqItems? (.ref t) >>= k ∧ k (some [u].toArray) = pure [(a.arg, u)] := by
  refine ⟨_, rfl, ?_⟩
  simp
def bindB (I : LamI) (pn : List Str) : Bool :=
  match I.params with
  | ⟨[], as, none, [], [], none, ds⟩ =>
    match as, ds, pn with
    | [], [], [] => I.dfl == 0
    | [a], [], [x] => I.dfl == 0 && decide (a.arg = x)
    | [a, b], [], [x, y] => I.dfl == 0 && decide (a.arg = x) && decide (b.arg = y) && decide (x ≠ y)
    | [a, b, d], [], [x, y, z] => I.dfl == 0 && decide (a.arg = x) && decide (b.arg = y) && decide (d.arg = z) && decide (x ≠ y) && decide (x ≠ z) && decide (y ≠ z)
    | [a], [_], [] => I.dfl == 1 && decide (I.scope.names.lookup a.arg = some .local)
    | _, _, _ => false
  | _ => false
theorem bindB_ok {I : LamI} {pn : List Str} (h : bindB I pn = true) : (I.dfl = 0 ∧ ∀ (name qual : Str) (cells : List (Str × Addr)) (doc pm cv ctv : Value) (us : List Value), us.length = pn.length → bindArgs (PySem.W.kdv_fn name qual I.params (.expr I.body) I.scope cells .none doc pm cv ctv) ⟨us, []⟩ = pure (pn.zip us)) ∨
    (I.dfl ≠ 0 ∧ pn = [] ∧ ∃ qn : List Str, (∀ y ∈ qn, I.scope.names.lookup y = some .local) ∧ ∀ (name qual : Str) (cells : List (Str × Addr)) (t : Addr) (doc pm cv ctv : Value) (its : List Value), its.length = I.dfl → ∃ k, bindArgs (PySem.W.kdv_fn name qual I.params (.expr I.body) I.scope cells (.ref t) doc pm cv ctv) ⟨[], []⟩ = seqItems? (.ref t) >>= k ∧ k (some its.toArray) = pure (qn.zip its)) := by
  obtain ⟨params, body, scope, caps, dfl⟩ := I
  unfold bindB at h
  simp only at h
  split at h
  · split at h
    · refine .inl ⟨by simpa using h, fun name qual cells doc pm cv ctv us hl => ?_⟩
      cases us with
      | nil => exact bind0
      | cons _ _ => simp at hl
    · simp only [Bool.and_eq_true, beq_iff_eq, decide_eq_true_eq] at h
      obtain ⟨h0, rfl⟩ := h
      refine .inl ⟨h0, fun name qual cells doc pm cv ctv us hl => ?_⟩
      match us, hl with
      | [u], _ => exact bind1
    · simp only [Bool.and_eq_true, beq_iff_eq, decide_eq_true_eq] at h
      obtain ⟨⟨⟨h0, rfl⟩, rfl⟩, h1⟩ := h
      refine .inl ⟨h0, fun name qual cells doc pm cv ctv us hl => ?_⟩
      match us, hl with
      | [u, v], _ => exact bind2 h1
    · simp only [Bool.and_eq_true, beq_iff_eq, decide_eq_true_eq] at h
      obtain ⟨⟨⟨⟨⟨⟨h0, rfl⟩, rfl⟩, rfl⟩, h1⟩, h2⟩, h3⟩ := h
      refine .inl ⟨h0, fun name qual cells doc pm cv ctv us hl => ?_⟩
      match us, hl with
      | [u, v, w], _ => exact bind3 h1 h2 h3
    · rename_i a e
      simp only [Bool.and_eq_true, beq_iff_eq, decide_eq_true_eq] at h
      obtain ⟨h0, h1⟩ := h
      refine .inr ⟨by rw [h0]; exact Nat.one_ne_zero, rfl, [a.arg], fun y hy => by
        have e : y = a.arg := by simpa using hy
        rw [e]; exact h1, fun name qual cells t doc pm cv ctv its hl => ?_⟩
      have hl : its.length = 1 := hl.trans h0
      match its, hl with
      | [u], _ => exact bindD
    · cases h
  · cases h
/-- a lambda of the text: its own parameters, its body -/
structure LamD where
  pn : List Str
  np : Nat
  body : LE
def LamD.fn (d : LamD) : Fn := ⟨d.np, d.np, .cons (.ret d.body) .nil⟩
def lamTxB (Γ : Sg) (I : LamI) (d : LamD) : Bool :=
  decide (I.caps ++ d.pn).Nodup && decide (I.scope.kind = .function) && !I.scope.isCoroutine && !I.scope.isGenerator && I.scope.names.all (fun y => decide (y.2 ≠ .cell) && (decide (y.2 ≠ .free) || I.caps.contains y.1)) && I.caps.all (fun y => decide (I.scope.names.lookup y = some .free)) &&
    d.pn.all (fun y => decide (I.scope.names.lookup y = some .local)) && bindB I d.pn && decide (d.np = I.caps.length + d.pn.length) && ok Γ (I.caps ++ d.pn) d.body 0 I.scope I.body
theorem lamTx_ok {Γ : Sg} {I : LamI} {d : LamD} (h : lamTxB Γ I d = true) : LamTx Γ I d.pn d.body d.fn := by
  unfold lamTxB at h
  simp only [Bool.and_eq_true, decide_eq_true_eq, List.all_eq_true] at h
  obtain ⟨⟨⟨⟨⟨⟨⟨⟨⟨h1, h2⟩, h3⟩, h4⟩, h5⟩, h6⟩, h7⟩, h8⟩, h9⟩, h10⟩ := h
  refine ⟨h1, h2, bnot h3, bnot h4, fun y hy => (h5 y hy).1, fun y hy => ?_, h6, h7, bindB_ok h8, h9, h9, rfl, h10⟩
  have q := (h5 _ (PySem.mem_of_lookup hy)).2
  rw [Bool.or_eq_true] at q
  rcases q with q | q
  · simp at q
  · simpa using q
/-- the text's lambdas behind its n defs -/
def lmkOf (Γ : Sg) (n : Nat) (ls : List LamD) : Nat → LamI → Bool := fun fl I => decide (n ≤ fl) && match ls[fl - n]? with
  | some d => lamTxB Γ I d
  | none => false
def CLam (Γ : Sg) (T : List Fn) : Nat → LamI → Prop := fun fl I => ∃ pn l F, T[fl]? = some F ∧ LamTx Γ I pn l F
theorem lmkOf_ok {Γ : Sg} {fs : List Fn} {ls : List LamD} {fl : Nat} {I : LamI} (h : lmkOf Γ fs.length ls fl I = true) : CLam Γ (fs ++ ls.map LamD.fn) fl I := by
  unfold lmkOf at h
  simp only [Bool.and_eq_true, decide_eq_true_eq] at h
  obtain ⟨h1, h2⟩ := h
  split at h2
  · rename_i d hd
    refine ⟨d.pn, d.body, d.fn, ?_, lamTx_ok h2⟩
    rw [List.getElem?_append_right h1, List.getElem?_map, hd]
    rfl
  · cases h2
end EV
end

section
set_option Elab.async false
set_option linter.all false
set_option maxRecDepth 100000
set_option maxHeartbeats 4000000
/-! EVL: the law's call, by a promise that holds where no repr is under way -/
namespace EV
open PySem PySem.Spec PyProof.Rows L2
abbrev tblO : Obj := { cls := .none, data := .fields #[] }
abbrev scrO (vs : List Value) : Obj := { cls := .type "list", data := .seq vs.toArray }
/-- what is tracked at the law's call: the tables of code, and the script where it is none of the module's -/
def lawH (ts : List Addr) (a : Addr) (o : Obj) (xs : List V) (b : Bool) : Hp := fun x => if x ∈ ts then some (.tbl #[]) else if x = a ∧ b = true then some (.frz o (.lst xs)) else none
section
variable {ts : List Addr} {a y : Addr} {o : Obj} {xs : List V} {b : Bool}
theorem lawH_in (h : y ∈ ts) : lawH ts a o xs b y = some (.tbl #[]) := if_pos h
theorem lawH_cases : lawH ts a o xs b y = none ∨ (y ∈ ts ∧ lawH ts a o xs b y = some (.tbl #[])) ∨ (y ∉ ts ∧ y = a ∧ b = true ∧ lawH ts a o xs b y = some (.frz o (.lst xs))) := by
  by_cases h : y ∈ ts
  · exact .inr (.inl ⟨h, if_pos h⟩)
  · by_cases k : y = a ∧ b = true
    · exact .inr (.inr ⟨h, k.1, k.2, (if_neg h).trans (if_pos k)⟩)
    · exact .inl ((if_neg h).trans (if_neg k))
end
section
variable {P : Program} {w : World} {K : PySem.W.Frag} {mg mb : Str → Option Value} {a : Addr} {cs : List (Addr × Addr)} {s : Shared} {vs : List Value} {ns : List Int}
/-- what is known of the heap at the law's call -/
structure LawSt (P : Program) (w : World) (K : PySem.W.Frag) (mg mb : Str → Option Value) (a : Addr) (cs : List (Addr × Addr)) (s : Shared) (vs : List Value) (ns : List Int) : Prop where
  kin : K.In s.heap
  ng : s.heap.Ns mainGlobals mg
  nb : s.heap.Ns builtinsNs mb
  bo : ∀ x : Str, x ≠ "__name__" → mb x = bootBuiltins x
  lm : s.heap.NoLimit
  tb : ∀ p ∈ cs, s.heap.get? p.2 = some tblO
  tk : ∀ p ∈ cs, K.lookup p.2 = none
  cd : ∀ p ∈ cs, PySem.W.CodeHd s.heap p.1 p.2
  bm : ∃ (m : Addr) (o : Obj), mg "__builtins__" = some (.ref m) ∧ m ≠ builtinsNs ∧ s.heap.get? m = some o ∧ o.cls = .type "module" ∧ o.dict = some builtinsNs ∧ o.data = .plain
  at_ : s.heap.get? a = some (scrO vs)
  ia : IntsAre vs ns
  len : ns.length ≤ sizeLine
namespace LawSt
def H (K : PySem.W.Frag) (a : Addr) (cs : List (Addr × Addr)) (vs : List Value) (ns : List Int) : Hp := lawH (cs.map Prod.snd) a (scrO vs) (ns.map V.int) (K.lookup a).isNone
variable (A : LawSt P w K mg mb a cs s vs ns)
include A
theorem inT {b : Addr} (h : b ∈ cs.map Prod.snd) : s.heap.get? b = some tblO := by
  obtain ⟨p, hp, rfl⟩ := List.mem_map.mp h
  exact A.tb p hp
theorem notT : a ∉ cs.map Prod.snd := fun z => by
  have q := A.inT z
  rw [A.at_] at q
  have z2 := congrArg (fun o : Obj => o.data) (Option.some.inj q)
  cases z2
/-- what is not of a list's or a table's shape is not tracked -/
theorem free {b : Addr} {o : Obj} (e : s.heap.get? b = some o) (n1 : ∀ u k, o.data ≠ .seq u k) (n2 : o.data ≠ .fields #[]) : H K a cs vs ns b = none := by
  rcases lawH_cases (ts := cs.map Prod.snd) (a := a) (y := b) (o := scrO vs) (xs := ns.map V.int) (b := (K.lookup a).isNone) with z | ⟨z, _⟩ | ⟨_, z, _, _⟩
  · exact z
  · rw [A.inT z] at e
    cases e
    exact absurd rfl n2
  · rw [z, A.at_] at e
    cases e
    exact absurd rfl (n1 _ _)
theorem nsB {b : Addr} {m : Str → Option Value} (h : s.heap.Ns b m) : (hidT s.heap (H K a cs vs ns)).Ns b m := by
  obtain ⟨o, es, ep, e, d, r⟩ := h
  refine ⟨o, es, ep, hidT_get e (A.free e ?_ ?_), d, r⟩
  · intro u k z
    rw [d] at z
    cases z
  · intro z
    rw [d] at z
    cases z
theorem kinB : K.In (hidT s.heap (H K a cs vs ns)) := fun b o e => by
  have g := A.kin b o e
  refine hidT_get g ?_
  rcases lawH_cases (ts := cs.map Prod.snd) (a := a) (y := b) (o := scrO vs) (xs := ns.map V.int) (b := (K.lookup a).isNone) with z | ⟨z, _⟩ | ⟨_, z, n, _⟩
  · exact z
  · obtain ⟨p, hp, rfl⟩ := List.mem_map.mp z
    rw [A.tk p hp] at e
    cases e
  · rw [z] at e
    rw [e] at n
    cases n
theorem modB : L2.Mod K mg (hidT s.heap (H K a cs vs ns)) := by
  refine ⟨A.kinB, A.nsB A.ng, ⟨mb, A.nsB A.nb, A.bo⟩, ?_⟩
  obtain ⟨mc, e1, e2⟩ := A.lm
  exact ⟨mc, A.nsB e1, e2⟩
theorem tabB {p : Addr × Addr} (hp : p ∈ cs) : LamX.TabB (hidT s.heap (H K a cs vs ns)) mg p.1 p.2 := by
  have tp := A.tb p hp
  constructor
  · obtain ⟨o, us, fl, tf, gs, tg, nF, tx, tt, e, c1, c2, c3, c⟩ := A.cd p hp
    refine ⟨o, us, fl, tf, gs, tg, nF, tx, tt, hidT_get e (A.free e ?_ ?_), c1, c2, c3, c⟩
    · intro u k z
      rw [c2] at z
      cases z
    · intro z
      rw [c2] at z
      cases z
      simp at c3
  · obtain ⟨m, o, q1, q2, q3, q4, q5, q6⟩ := A.bm
    have ng : m ≠ mainGlobals := by
      intro z
      obtain ⟨o2, es, ep, e, d, _⟩ := A.ng
      rw [z, e] at q3
      cases q3
      rw [d] at q6
      cases q6
    have np : m ≠ p.2 := by
      intro z
      rw [z, tp] at q3
      cases q3
      cases q6
    refine ⟨m, o, q1, q2, ng, np, hidT_get q3 (A.free q3 ?_ ?_), q4, q5, q6⟩
    · intro u k z
      rw [q6] at z
      cases z
    · intro z
      rw [q6] at z
      cases z
  · intro z
    obtain ⟨o, es, ep, e, d, _⟩ := A.ng
    rw [z, tp] at e
    cases e
    cases d
theorem hokB : HOk P w (H K a cs vs ns) s.heap := fun b u z => by
  rcases lawH_cases (ts := cs.map Prod.snd) (a := a) (y := b) (o := scrO vs) (xs := ns.map V.int) (b := (K.lookup a).isNone) with q | ⟨q, e⟩ | ⟨_, q, _, e⟩
  · have := z.symm.trans q
    cases this
  · have := z.symm.trans e
    cases this
    exact A.inT q
  · have := z.symm.trans e
    cases this
    rw [q]
    exact ⟨A.at_, by rw [List.length_map]; exact A.len, vs, _, vals_ints A.ia, A.at_⟩
theorem scr : SqL K (H K a cs vs ns) a (ns.map V.int) := by
  cases hk : K.lookup a with
  | none => exact .inl (.inr ⟨scrO vs, by show lawH _ _ _ _ _ _ = _; unfold lawH; rw [if_neg A.notT, hk]; simp⟩)
  | some o =>
    have e := A.kin a o hk
    rw [A.at_] at e
    cases e
    have l := A.ia.length
    have ln := A.len
    refine .inr ⟨_, vs.toArray, _, hk, rfl, rfl, rfl, ?_, by simpa using vals_ints A.ia⟩
    rw [List.size_toArray, l]
    exact ln
theorem env0 (hg : s.gens = #[]) : Env0 P w K mg (hidT s.heap (H K a cs vs ns)) callerA [] s (H K a cs vs ns) :=
  ⟨rfl, A.modB, fun b o e => of_hidT e, Nat.le_of_eq (hidT_size _ _), trivial, fun b z => by simp [frs] at z, A.hokB, .of_eq hg⟩
/-- what is left at the end -/
theorem old {s' : Shared} {H' : Hp} (u : Un (frs []) [] (H K a cs vs ns) H' s.heap s'.heap) (ok : HOk P w H' s'.heap) : OldK s.heap s'.heap := by
  have kept : ∀ b o, b ∉ cs.map Prod.snd → s.heap.get? b = some o → s'.heap.get? b = some o := fun b o nb e => by
    rcases lawH_cases (ts := cs.map Prod.snd) (a := a) (y := b) (o := scrO vs) (xs := ns.map V.int) (b := (K.lookup a).isNone) with q | ⟨q, _⟩ | ⟨_, q, _, z⟩
    · exact u.keep b o e q (by simp [frs]) (by simp)
    · exact absurd q nb
    · rw [q, A.at_] at e
      cases e
      rw [q] at z ⊢
      exact (ok a _ (u.frzs a (scrO vs) _ z)).1
  have more : ∀ b ∈ cs.map Prod.snd, ∃ ps : Array Value, s'.heap.get? b = some { cls := .none, data := .fields ps } := fun b hb => by
    obtain ⟨m, e⟩ := u.tbls b #[] (lawH_in hb)
    exact ⟨_, ok b _ e⟩
  constructor
  · intro b o e
    by_cases hb : b ∈ cs.map Prod.snd
    · right; left
      obtain ⟨ps, eps⟩ := more b hb
      have e2 := e
      rw [A.inT hb] at e2
      cases e2
      obtain ⟨p, hp, rfl⟩ := List.mem_map.mp hb
      refine ⟨((A.cd p hp).tab (A.tb p hp)).isCodeTable, rfl, #[], ps, rfl, ?_⟩
      rw [Array.empty_append]
      exact eps
    · left
      exact kept b o hb e
  · intro b o e
    by_cases hb : b ∈ cs.map Prod.snd
    · obtain ⟨ps, eps⟩ := more b hb
      exact ⟨_, eps⟩
    · exact ⟨o, kept b o hb e⟩
end LawSt
theorem law_callG {CX : CXT} {k : Nat} {fa : Addr} {fd : FuncData} {x : Str} {sp : Sp} (A : LawSt P w K mg mb a cs s vs ns) (hg : s.gens = #[]) (hr : RoomG k callerA)
    (F : ∀ base : PySem.Heap, K.In base → base.Ns mainGlobals mg → (∀ p ∈ cs, LamX.TabB base mg p.1 p.2) → FnG P w K mg base CX k fa fd [x] sp) (hb : ∀ (s : Shared) (u : Value), BindsTo s fd ⟨[u], []⟩ [(x, u)])
    (hq : ∀ H : Hp, (∀ p ∈ cs, H p.2 = some (.tbl #[])) → SqL K H a (ns.map V.int) → sp [.ref a] H (fun v _ => v = .bl true) fun _ _ _ => False) (hx : ∀ H e s', CX [] H s (fun _ _ _ => False) e s' → False) :
    codeAny (model P w) callerA (.call (.ref fa) ⟨[.ref a], []⟩) (fun r s' => r = .ok (.ret (.bool true)) ∧ OldK s.heap s'.heap ∧ s'.os = s.os ∧ AllBare s'.gens) s := by
  have tH : ∀ p ∈ cs, LawSt.H K a cs vs ns p.2 = some (.tbl #[]) := fun p hp => lawH_in (List.mem_map_of_mem hp)
  have R := F _ A.kinB (A.nsB A.ng) (fun p hp => A.tabB hp)
  refine codeAny_mono (R.run callerA [] s (LawSt.H K a cs vs ns) ⟨[.ref a], []⟩ [.ref a] [.ref a] _ _ hr (A.env0 hg) (hb s (.ref a)) (.cons rfl .nil) (hq _ tH A.scr)) fun r s' z => ?_
  cases r with
  | error e => exact absurd z (hx _ e s')
  | ok fl =>
    cases fl with
    | ret u =>
      obtain ⟨v, H', e1, e2, un, ok, rv, q⟩ := z
      cases (show v = V.bl true from q)
      cases (show u = Value.bool true from rv)
      exact ⟨rfl, A.old un ok, e1, e2⟩
    | next => cases z
    | brk => cases z
    | cont => cases z
end
/-- what is known of the law's promise at the head's heap h -/
def LawAtG (l : PySem.W.OpenLaw) (w : World) (K : PySem.W.Frag) (CX : CXT) (k n : Nat) (x : Str) (mg : Str → Option Value) (fa : Addr) (h : PySem.Heap) : Prop :=
  ∃ (fd : FuncData) (cs : List (Addr × Addr)) (sp : Sp), (∀ p ∈ cs, h.get? p.2 = some tblO) ∧ (∀ p ∈ cs, K.lookup p.2 = none) ∧ (∀ p ∈ cs, PySem.W.CodeHd h p.1 p.2) ∧ (∀ (s : Shared) (u : Value), BindsTo s fd ⟨[u], []⟩ [(x, u)]) ∧
    (∀ (H : Hp) (a : Addr) (is : List Int), is.length ≤ n → (∀ z ∈ is, Builtin.Int.intBits z ≤ 1048576) → (∀ p ∈ cs, H p.2 = some (.tbl #[])) → SqL K H a (is.map V.int) → sp [.ref a] H (fun v _ => v = .bl true) fun _ _ _ => False) ∧
    ∀ base : PySem.Heap, K.In base → base.Ns mainGlobals mg → (∀ p ∈ cs, LamX.TabB base mg p.1 p.2) → FnG l.prog w K mg base CX k fa fd [x] sp
theorem walk_G {l : PySem.W.OpenLaw} {n k : Nat} {pr : Program} {ls : List Str} {XP : (Str → Option Value) → PySem.Heap → Prop} {YP : World → PySem.Heap → Prop} {d : DefRec} {CX : World → CXT} {x : Str}
    (e1 : l.most = some n) (e2 : n ≤ sizeLine) (e3 : d.params.defaults = []) (hr : RoomG k callerA)
    (F : ∀ (w : World) (mg : Str → Option Value) (fa : Addr) (h : PySem.Heap), YP w h → h.Ns mainGlobals mg → mg d.name = some (.ref fa) → ∃ K : PySem.W.Frag, K.In h ∧ LawAtG l w K (CX w) k n x mg fa h)
    (hx : ∀ (w : World) (H : Hp) (s : Shared) (e : Value) (s' : Shared), CX w [] H s (fun _ _ _ => False) e s' → False) :
    PySem.W.WalkO pr ls XP YP l.row.toRowW d [] (fun f vs => PySem.call f vs) := by
  refine Att.attach_callB e1 e3 fun w s₀ s₁ mg mb fa o pm cd doc a vs ns G Y ho hd hcd hmg hobj hints hlen hbits hg => ?_
  obtain ⟨K, kin, fd, cs, sp, t1, t2, t3, t4, t5, t6⟩ := F w mg fa _ Y G.T.g hmg
  refine law_callG ⟨kin, G.T.g, G.T.b, G.T.builtins, G.T.nolimit, t1, t2, t3, G.T.bmain, hobj, hints, Nat.le_trans hlen e2⟩ hg hr t6 t4 (fun H z1 z2 => t5 H a ns hlen hbits z1 z2) fun H e s' => hx w H s₁ e s'
end EV
end

section
set_option Elab.async false
set_option linter.all false
set_option maxRecDepth 100000
set_option maxHeartbeats 4000000
/-! EV29: the law, from the evaluator to the row -/
namespace EV
open PySem PySem.Spec PyProof.Rows L2
theorem lk_zip : ∀ {ns : List Str} {us : List Value} {x : Str}, us.length = ns.length → x ∈ ns → ∃ v, (ns.zip us).lookup x = some v
  | [], _, _, _, h => by cases h
  | n :: ns, [], _, hl, _ => by cases hl
  | n :: ns, u :: us, x, hl, h => by
    rw [List.zip_cons_cons, List.lookup_cons]
    cases hb : x == n with
    | true => exact ⟨u, rfl⟩
    | false =>
      rcases List.mem_cons.mp h with e | h
      · rw [e, beq_self_eq_true] at hb; cases hb
      · exact lk_zip (by simpa using hl) h
theorem fm_zip : ∀ {ns : List Str} {us : List Value} {l : List (Str × Value)}, us.length = ns.length → ns.Nodup → (∀ x ∈ ns, l.lookup x = (ns.zip us).lookup x) → ns.filterMap (fun n => (l.lookup n).map (n, ·)) = ns.zip us
  | [], _, _, _, _, _ => rfl
  | n :: ns, [], _, hl, _, _ => by cases hl
  | n :: ns, u :: us, l, hl, nd, h => by
    obtain ⟨n1, n2⟩ := List.nodup_cons.mp nd
    have h0 := h n List.mem_cons_self
    rw [List.zip_cons_cons, List.lookup_cons, beq_self_eq_true] at h0
    rw [List.filterMap_cons, h0, List.zip_cons_cons]
    show (n, u) :: _ = _
    rw [fm_zip (by simpa using hl) n2 fun x hx => ?_]
    rw [h x (List.mem_cons_of_mem _ hx), List.zip_cons_cons, List.lookup_cons]
    have e : (x == n) = false := by
      rw [beq_eq_false_iff_ne]
      intro e; subst e; exact n1 hx
    rw [e]
theorem bind_gen {fd : FuncData} {as : List Arg} (hp : fd.params = ⟨[], as, none, [], [], none, []⟩) (hd : fd.defaults = .none) (nd : (as.map (·.arg)).Nodup) {us : List Value} (hl : us.length = as.length) : bindArgs fd ⟨us, []⟩ = pure ((as.map (·.arg)).zip us) := by
  have hl' : us.length = (as.map (·.arg)).length := by rw [List.length_map]; exact hl
  have h1 : ((as.map (·.arg)).filter fun n => (((as.map (·.arg)).zip us).lookup n).isNone) = [] := by
    rw [List.filter_eq_nil_iff]
    intro x hx
    obtain ⟨v, e⟩ := lk_zip hl' hx
    rw [e]
    simp
  have h2 := fm_zip (l := (as.map (·.arg)).zip us) hl' nd fun x _ => rfl
  unfold bindArgs
  simp only [hp, hd, seqNone, pure_bind, List.map_nil, List.nil_append, List.append_nil]
  simp [hl]
  refine (if_neg (fun z => ?_)).trans ?_
  · have e1 : List.take ((as.map fun x => x.arg).length - (List.drop (0 - (as.map fun x => x.arg).length) ([] : List Value)).length) (as.map fun x => x.arg) = as.map fun x => x.arg := List.take_of_length_le (by simp)
    rw [e1] at z
    have h1' : List.filter (fun n => (List.lookup n ((List.map (fun x => x.arg) as).zip us)).isNone) (List.map (fun x => x.arg) as) = [] := h1
    rw [h1'] at z
    simp at z
  · rw [← List.filterMap_map]
    exact congrArg pure h2
/-! ### a law's text -/
structure LawT where
  ds : List Def
  lds : List LamD
  blt : List String
  gv : List (String × D)
  own : List String
  bcl : List String
  rz : List Nat
  subs : List (Nat × Nat × Bool)
namespace LawT
def fs (T : LawT) : List Fn := fnsOf T.ds ++ T.lds.map LamD.fn
def Γ0 (T : LawT) : Sg := sgOf T.ds T.blt T.gv (T.own ++ T.bcl) T.rz (fun _ _ => false)
def lmk (T : LawT) : Nat → LamI → Bool := lmkOf T.Γ0 (fnsOf T.ds).length T.lds
def Γ (T : LawT) : Sg := sgOf T.ds T.blt T.gv (T.own ++ T.bcl) T.rz T.lmk
def sub (T : LawT) : Nat → Nat → Option Bool := fun i j => (T.subs.find? fun p => p.1 == i && p.2.1 == j).map (·.2.2)
def clsV (T : LawT) (K : PySem.W.Frag) (i : Nat) : Value := match T.own[i]? with
  | some x => .ref (He.ga K x)
  | none => .type ((T.bcl[i - T.own.length]?).getD "object")
def mks (T : LawT) : List Def := T.ds.filter (·.mkl)
def tabs (T : LawT) (K : PySem.W.Frag) : List (Addr × Str) := T.mks.map fun d => ((He.cT K (d.nm, none)).2, ((d.nm : Str) ++ ".<locals>.") ++ "<lambda>")
def excCB (K : PySem.W.Frag) (D : Addr) : Bool :=
  He.eqO (PySem.W.findIn K (.ref D) "__getattribute__") (some (some (.builtin "BaseException.__getattribute__"))) && (He.eqO (PySem.W.findIn K (.ref D) "__getattr__") (some none) && (decide (PySem.W.subIn K (.ref D) (.type "BaseException") = some true) && (PySem.W.hasDictIn K D &&
  (He.eqO (PySem.W.findIn K (.ref D) "__class__") (some (some (.builtin "object.__class__"))) && (He.eqO (PySem.W.specialIn K (.builtin "object.__class__") "__get__") (some (some (.builtin "getset_descriptor.__get__"))) && (decide (PySem.W.takesIn K (.builtin "object.__class__") = some true) && decide (PySem.W.mroIn K D (.type "object") = some true)))))))
theorem excCB_ok {K : PySem.W.Frag} {D : Addr} (h : excCB K D = true) : ExcC K D := by
  unfold excCB at h
  obtain ⟨h1, h⟩ := He.ba h
  obtain ⟨h2, h⟩ := He.ba h
  obtain ⟨h3, h⟩ := He.ba h
  obtain ⟨h4, h⟩ := He.ba h
  obtain ⟨h5, h⟩ := He.ba h
  obtain ⟨h6, h⟩ := He.ba h
  obtain ⟨h7, h8⟩ := He.ba h
  exact ⟨He.eqO_ok h1, He.eqO_ok h2, of_decide_eq_true h3, h4, He.eqO_ok h5, He.eqO_ok h6, of_decide_eq_true h7, of_decide_eq_true h8⟩
def exB (T : LawT) (K : PySem.W.Frag) : Bool :=
  (T.subs.all fun p => decide (p.1 < T.own.length) && (decide (PySem.W.exmOne K (T.clsV K p.1) (T.clsV K p.2.1) = some p.2.2) && (decide (PySem.W.kitOne K (T.clsV K p.1) (T.clsV K p.2.1) = some p.2.2) && excCB K (He.ga K ((T.own.getD p.1 "" : String) : Str))))) &&
  ((T.tabs K).all fun p => (T.tabs K).all fun q => !decide (p.1 = q.1) || decide (p.2 = q.2))
def gvF : String × D → List He.Fa
  | (x, .int i) => [.int x i]
  | (x, .str s) => [.str x (SS s)]
  | _ => []
def gvB : String × D → Bool
  | (_, .int _) => true
  | (_, .str s) => s.all fun c => decide (c < 0x110000)
  | _ => false
def fas (T : LawT) : List He.Fa := T.ds.map (fun d => .glo d.nm) ++ (T.blt.map (fun x => .free x) ++ (T.own.map (fun x => .glo x) ++ (T.bcl.map (fun x => .free x) ++ (T.rz.map (fun i => .exc ((T.own.getD i "" : String) : Str)) ++ T.gv.flatMap gvF))))
def fns (T : LawT) : List He.DefD := T.ds.map fun d => ⟨(d.nm, none), d.nm, d.nm, defArgs d.st, defBody d.st, defScope d.st, [], []⟩
def tfs (T : LawT) : List He.Defn := T.mks.map fun d => ((d.nm : Str), none)
def parB (d : Def) : Bool := match defArgs d.st with
  | ⟨[], as, none, [], [], none, []⟩ => decide (as.map (·.arg) = nmsOf d.ps) && decide (nmsOf d.ps).Nodup
  | _ => false
/-- what is looked at without the heap -/
def ok (T : LawT) : Bool := T.ds.all (defB T.Γ) && T.ds.all parB && T.gv.all gvB && T.bcl.all (fun x => decide (bootBuiltins (x : Str) = some (.type x)) && decide ((x : Str) ≠ "__name__")) && T.rz.all (fun i => decide (i < T.own.length))
end LawT
theorem parB_ok {d : Def} (h : LawT.parB d = true) {fd : FuncData} (hp : fd.params = defArgs d.st) (hd : fd.defaults = .none) {us : List Value} (hl : us.length = (nmsOf d.ps).length) : bindArgs fd ⟨us, []⟩ = pure ((nmsOf d.ps).zip us) := by
  unfold LawT.parB at h
  split at h
  · rename_i as e
    simp only [Bool.and_eq_true, decide_eq_true_eq] at h
    rw [← h.1]
    exact bind_gen (hp.trans e) hd (by rw [h.1]; exact h.2) (by rw [hl, ← h.1, List.length_map])
  · cases h
theorem defsOk_of {c : Glb} {mg : Str → Option Value} {base : PySem.Heap} {f : Def → Addr} : ∀ {ds : List Def}, (∀ d ∈ ds, DefOk c mg base d (f d)) → DefsOk c mg base ds (ds.map f)
  | [], _ => True.intro
  | d :: ds, h => ⟨h d List.mem_cons_self, defsOk_of fun e he => h e (List.mem_cons_of_mem _ he)⟩
theorem law_at {l : PySem.W.OpenLaw} {T : LawT} {w : World} {K : PySem.W.Frag} {mg : Str → Option Value} {fa : Addr} {h : PySem.Heap} {k iLaw wf : Nat} {dl : Def}
    (KX : K.In h) (GN : h.Ns mainGlobals mg) (hfa : mg ("law" : Str) = some (.ref fa)) (c : He.SaysX T.fas T.fns [] T.tfs T.exB w h K) (chk : T.ok = true)
    (hl : T.ds[iLaw]? = some dl) (hnm : dl.nm = "law") (hps : dl.ps = ["script"])
    (hP : ∀ ns : List Int, ns.length ≤ 63 → (∀ z ∈ ns, Builtin.Int.intBits z ≤ 1048576) → ∃ S', callN T.fs T.sub wf (k + 1) iLaw [.scr (ns.map .int)] [] = .ok (.d (.bl true)) S') :
    LawAtG l w K (L2.CX l.prog w) (k + 1) 63 "script" mg fa h := by
  have cd := c.t.d
  unfold LawT.ok at chk
  simp only [Bool.and_eq_true, List.all_eq_true, decide_eq_true_eq] at chk
  obtain ⟨⟨⟨⟨k1, k2⟩, k3⟩, k4⟩, k5⟩ := chk
  obtain ⟨x1, x2⟩ := He.ba c.more
  simp only [List.all_eq_true] at x1 x2
  have fGlo : ∀ d ∈ T.ds, mg (d.nm : Str) = some (.ref (He.ga K d.nm)) := fun d hd => He.glo_ok KX GN (cd.facts (f := .glo d.nm) (List.mem_append_left _ (List.mem_map.mpr ⟨d, hd, rfl⟩)))
  have fFree : ∀ x ∈ T.blt, mg (x : Str) = none := fun x hx => He.free_ok KX GN (cd.facts (f := .free x) (List.mem_append_right _ (List.mem_append_left _ (List.mem_map.mpr ⟨x, hx, rfl⟩))))
  have fOwn : ∀ x ∈ T.own, mg (x : Str) = some (.ref (He.ga K x)) := fun x hx => He.glo_ok KX GN (cd.facts (f := .glo x) (List.mem_append_right _ (List.mem_append_right _ (List.mem_append_left _ (List.mem_map.mpr ⟨x, hx, rfl⟩)))))
  have fBcl : ∀ x ∈ T.bcl, mg (x : Str) = none := fun x hx => He.free_ok KX GN (cd.facts (f := .free x) (List.mem_append_right _ (List.mem_append_right _ (List.mem_append_right _ (List.mem_append_left _ (List.mem_map.mpr ⟨x, hx, rfl⟩))))))
  have fRz : ∀ i ∈ T.rz, (He.Fa.exc ((T.own.getD i "" : String) : Str)).ok K = true := fun i hi => cd.facts (f := .exc ((T.own.getD i "" : String) : Str)) (List.mem_append_right _ (List.mem_append_right _ (List.mem_append_right _ (List.mem_append_right _ (List.mem_append_left _ (List.mem_map.mpr ⟨i, hi, rfl⟩))))))
  have fGv : ∀ p ∈ T.gv, ∀ f ∈ LawT.gvF p, f.ok K = true := fun p hp f hf => cd.facts (List.mem_append_right _ (List.mem_append_right _ (List.mem_append_right _ (List.mem_append_right _ (List.mem_append_right _ (List.mem_flatMap.mpr ⟨p, hp, hf⟩))))))
  have defAt : ∀ d ∈ T.ds, ∃ fd, Fun K d.nm d.nm d.st (He.ga K d.nm) fd ∧ Binds K fd (nmsOf d.ps) [] ∧ (∀ (s : Shared) (us : List Value), us.length = (nmsOf d.ps).length → BindsTo s fd ⟨us, []⟩ ((nmsOf d.ps).zip us)) ∧ fd.code = .ref (He.codeOf K (d.nm, none)) := fun d hd => by
    obtain ⟨fd, F⟩ := cd.defs (d := ⟨(d.nm, none), d.nm, d.nm, defArgs d.st, defBody d.st, defScope d.st, [], []⟩) (List.mem_map.mpr ⟨d, hd, rfl⟩)
    have F : FunD K d.nm d.nm (defArgs d.st) (defBody d.st) (defScope d.st) [] [] (He.ga K d.nm) fd := F
    obtain ⟨oc, od, dV, kV, doc, pm, an, cdv, ct, osl, rfl, lk, hcd, hD, hK⟩ := F.ex
    rcases hD with ⟨_, rfl⟩ | ⟨e, _⟩
    · have bnd : ∀ us : List Value, us.length = (nmsOf d.ps).length → bindArgs (PySem.W.fnOf d.nm d.nm (defArgs d.st) (defBody d.st) (defScope d.st) .none kV doc pm an cdv ct) ⟨us, []⟩ = pure ((nmsOf d.ps).zip us) := fun us hl => parB_ok (k2 d hd) rfl rfl hl
      obtain ⟨cc, hcc⟩ := He.codeIn_ref hcd
      refine ⟨_, ⟨⟨oc, od, kV, doc, pm, an, cdv, ct, osl, rfl, lk, hcd⟩, F.kp⟩, Binds.all bnd, fun s us hl => BindsTo.of_eq (bnd us hl), ?_⟩
      show cdv = _
      rw [He.codeOf_eq (p := (d.nm, none)) lk hcc, hcc]
    · exact absurd rfl e
  have hdl : dl ∈ T.ds := List.mem_of_getElem? hl
  obtain ⟨fd, Fu, hbL, hbT, hcode⟩ := defAt dl hdl
  have eNm : (dl.nm : Str) = ("law" : Str) := by rw [hnm]
  have ePs : nmsOf dl.ps = [("script" : Str)] := by rw [hps]; rfl
  have hga : He.ga K dl.nm = fa := by
    have e : mg ("law" : Str) = some (.ref (He.ga K dl.nm)) := by rw [← eNm]; exact fGlo dl hdl
    rw [hfa] at e
    injection e with e
    injection e with e
    exact e.symm
  -- what is fixed
  let c0 : Glb := { lam := CLam { T.Γ with mn := [], lmk := fun _ _ => false } T.fs, K := K, fa := fun i => (T.ds.map fun d => He.ga K d.nm)[i]?, ca := fun i => some (T.clsV K i), tabs := T.tabs K, ex := none }
  have own_at : ∀ {i : Nat} {x : String}, T.own[i]? = some x → T.clsV K i = .ref (He.ga K x) := fun {i x} e => by unfold LawT.clsV; rw [e]
  have own_none : ∀ {i : Nat} {x : String}, T.own[i]? = none → T.bcl[i - T.own.length]? = some x → T.clsV K i = .type x := fun {i x} e e2 => by unfold LawT.clsV; rw [e, e2]; rfl
  have hcl : ∀ (i : Nat) (x : String), (T.own ++ T.bcl)[i]? = some x → ∃ (cv : Value) (v : V), c0.ca i = some cv ∧ RelV v cv ∧ (∀ u, RelV v u → u = cv) ∧ (mg (x : Str) = some cv ∨ (mg (x : Str) = none ∧ bootBuiltins (x : Str) = some cv ∧ (x : Str) ≠ "__name__")) := fun i x hx => by
    by_cases hi : i < T.own.length
    · rw [List.getElem?_append_left hi] at hx
      exact ⟨.ref (He.ga K x), .ref (He.ga K x), congrArg some (own_at hx), rfl, fun u r => r, .inl (fOwn x (List.mem_of_getElem? hx))⟩
    · rw [List.getElem?_append_right (by omega)] at hx
      have hm := List.mem_of_getElem? hx
      exact ⟨.type x, .ty x, congrArg some (own_none (List.getElem?_eq_none_iff.mpr (by omega)) hx), rfl, fun u r => r, .inr ⟨fBcl x hm, (k4 x hm).1, (k4 x hm).2⟩⟩
  have hsb : ∀ i j b, T.sub i j = some b → ∃ (D : Addr) (cv : Value), c0.ca i = some (.ref D) ∧ c0.ca j = some cv ∧ PySem.W.exmOne c0.K (.ref D) cv = some b ∧ PySem.W.kitOne c0.K (.ref D) cv = some b ∧ ExcC c0.K D := fun i j b hb => by
    unfold LawT.sub at hb
    rw [Option.map_eq_some_iff] at hb
    obtain ⟨p, hp, rfl⟩ := hb
    have hm := List.mem_of_find?_eq_some hp
    have hq := List.find?_some hp
    simp only [Bool.and_eq_true, beq_iff_eq] at hq
    obtain ⟨rfl, rfl⟩ := hq
    have q := x1 p hm
    simp only [Bool.and_eq_true, decide_eq_true_eq] at q
    obtain ⟨q1, q2, q3, q4⟩ := q
    have e1 : T.own[p.1]? = some (T.own.getD p.1 "") := by rw [List.getD_eq_getElem?_getD, List.getElem?_eq_getElem q1]; rfl
    rw [own_at e1] at q2 q3
    exact ⟨He.ga K ((T.own.getD p.1 "" : String) : Str), T.clsV K p.2.1, congrArg some (own_at e1), rfl, q2, q3, LawT.excCB_ok q4⟩
  have hrz : ∀ i x, i ∈ T.rz → (T.own ++ T.bcl)[i]? = some x → ∃ (C : Addr) (B newId initId : String) (bmB : List Value), c0.ca i = some (.ref C) ∧ mg (x : Str) = some (.ref C) ∧ PySem.W.keepIn c0.K (.ref C) = true ∧ ExcBaseFacts B newId initId bmB ∧ PySem.W.excIn c0.K C bmB newId = true ∧ PySem.W.subIn c0.K (.ref C) (.type "BaseException") = some true ∧ PySem.W.typeIn c0.K (.ref C) = some (.type "type") := fun i x hi hx => by
    have hlt := k5 i hi
    rw [List.getElem?_append_left hlt] at hx
    have e : T.own.getD i "" = x := by rw [List.getD_eq_getElem?_getD, hx]; rfl
    have q := fRz i hi
    rw [e] at q
    obtain ⟨e1, e2, e3, e4⟩ := He.exc_ok q
    exact ⟨He.ga K x, _, _, _, He.veBase, congrArg some (own_at hx), fOwn x (List.mem_of_getElem? hx), e2, PySem.F.excBase_ValueError, e1, e3, e4⟩
  have hgv : ∀ (x : String) (d : D), (x, d) ∈ T.gv → ∃ (u : Value) (v : V), mg (x : Str) = some u ∧ RelV v u ∧ ∀ L H, Rep c0.K L H d v := fun x d hx => by
    have q := fGv _ hx
    have q2 := k3 _ hx
    cases d with
    | int i =>
      obtain ⟨t, e⟩ := He.int_ok KX GN (q (.int x i) List.mem_cons_self)
      exact ⟨_, .int i, e, ⟨t, rfl⟩, fun _ _ => .int i⟩
    | str s =>
      obtain ⟨t, e⟩ := He.str_ok KX GN (q (.str x (SS s)) List.mem_cons_self)
      have q3 : (s.all fun c => decide (c < 0x110000)) = true := q2
      simp only [List.all_eq_true, decide_eq_true_eq] at q3
      exact ⟨_, .str (SS s), e, ⟨t, rfl⟩, fun _ _ => .str q3⟩
    | _ => cases q2
  have tabE : ∀ d ∈ T.mks, ((He.cT K (d.nm, none)).2, ((d.nm : Str) ++ ".<locals>.") ++ "<lambda>") ∈ T.tabs K := fun d hd => List.mem_map.mpr ⟨d, hd, rfl⟩
  have tabU : ∀ p ∈ T.tabs K, ∀ q ∈ T.tabs K, p.1 = q.1 → p.2 = q.2 := fun p hp q hq e => by
    have z := x2 p hp q hq
    rw [Bool.or_eq_true] at z
    rcases z with z | z
    · rw [decide_eq_true e] at z; cases z
    · exact of_decide_eq_true z
  have chkL := k1 dl hdl
  unfold defB at chkL
  simp only [Bool.and_eq_true, decide_eq_true_eq] at chkL
  obtain ⟨⟨⟨q1, q2⟩, q3⟩, q4⟩ := chkL
  refine ⟨fd, T.tfs.map (He.cT K), spF c0 ⟨callN T.fs T.sub wf (k + 1), wf, T.sub⟩ iLaw 1, fun p hp => ?_, fun p hp => ?_, fun p hp => ?_, fun s u => ?_, fun H a ns h63 hbits hT hS => ?_, fun base KB GB hTB => ?_⟩
  · obtain ⟨x, hx, rfl⟩ := List.mem_map.mp hp
    exact c.empty x hx
  · obtain ⟨x, hx, rfl⟩ := List.mem_map.mp hp
    exact c.out x hx
  · obtain ⟨x, hx, rfl⟩ := List.mem_map.mp hp
    exact PySem.W.codeHd_of_K KX (c.hd x hx)
  · have z := hbT s [u] (by rw [ePs]; rfl)
    rw [ePs] at z
    exact z
  · obtain ⟨S', hS'⟩ := hP ns h63 hbits
    have hlen : (ns.map D.int).length ≤ lim := by rw [List.length_map]; exact Nat.le_trans h63 (by decide)
    have tb : LamX.Tabs (T.tabs K) H := fun p hp => by
      obtain ⟨d, hd, rfl⟩ := List.mem_map.mp hp
      exact LamX.TabS.nil (hT _ (List.mem_map.mpr ⟨((d.nm : Str), none), List.mem_map.mpr ⟨d, hd, rfl⟩, rfl⟩))
    have ok0 : GOk c0 ⟨[], [], [], H⟩ := ⟨rfl, .nil, fun a ha => absurd ha (by simp), fun a ha => absurd ha (by simp), fun n a x h1 => by simp at h1, tb⟩
    have reps : ∀ ns : List Int, Reps c0.K (live ⟨[], [], [], H⟩) H (ns.map D.int) (ns.map V.int) := fun ns => by
      induction ns with
      | nil => exact .nil
      | cons n ns ih => exact .cons (.int n) ih
    have nolive : ∀ a, ¬ live (⟨[], [], [], H⟩ : G) a := fun a z => by
      rcases z with z | ⟨n, x, h1, _⟩
      · cases z
      · simp at h1
    have sq : SqS c0 ⟨[], [], [], H⟩ a (ns.map V.int) := by
      rcases hS with hS | hS
      · exact .inl ⟨hS, nolive a⟩
      · exact .inr (.inr hS)
    refine ⟨⟨[], [], [], H⟩, [.scr (ns.map D.int)], rfl, ok0, .cons (.scr sq hlen (reps ns)) .nil, rfl, ?_⟩
    show Out c0 ⟨[], [], [], H⟩ _ [] (callN T.fs T.sub wf (k + 1) iLaw [.scr (ns.map D.int)] []) _
    rw [hS']
    intro ρ' H' _ _ w hw
    cases hw with
    | d r => cases r; rfl
  · have mkfd : ∀ d ∈ T.mks, ∀ fd : FuncData, fd.code = .ref (He.codeOf K (d.nm, none)) → MkFd c0 mg base d.nm fd := fun d hdm fd hco => by
      have t1 := hTB _ (List.mem_map.mpr ⟨((d.nm : Str), none), List.mem_map.mpr ⟨d, hdm, rfl⟩, rfl⟩)
      have t2 := tabE d hdm
      refine ⟨(He.cT K (d.nm, none)).1, (He.cT K (d.nm, none)).2, ?_, ?_, ?_, ?_⟩
      rotate_left
      · exact t1
      · apply t2
      · intro p hp e
        have := tabU p hp _ t2 e
        assumption
      rw [hco]
      unfold He.cT
      rfl
    have dok : DefsOk c0 mg base T.ds (T.ds.map fun d => He.ga K d.nm) := defsOk_of fun d hd => by
      obtain ⟨fd, Fu, hb, _, hco⟩ := defAt d hd
      refine ⟨fd, Fu, fGlo d hd, hb, fun hm => ?_⟩
      exact mkfd d (List.mem_filter.mpr ⟨hd, hm⟩) fd hco
    have all := all_ok (c := c0) (P := l.prog) (w := w) (mg := mg) (base := base) (ds := T.ds) (as := T.ds.map fun d => He.ga K d.nm) (blt := T.blt) (gv := T.gv) (cls := T.own ++ T.bcl) (rz := T.rz) (sub := T.sub) (wf := wf) (ls := T.lds.map LamD.fn) (lmk := T.lmk)
      (fun m => ⟨_, rfl⟩) (fun fl I hf => lmkOf_ok hf) (fun fl I hf => hf) dok rfl (by rw [List.all_eq_true]; exact k1) rfl fFree hcl hsb hrz hgv k
    obtain ⟨fd2, _, _, _, hmk⟩ : DefOk c0 mg base dl (He.ga K dl.nm) := by
      obtain ⟨a, ha, hd⟩ := dok.at_ hl
      rw [List.getElem?_map, hl] at ha
      cases ha
      exact hd
    have hT : T.fs[iLaw]? = some dl.fn := by
      have h0 : (fnsOf T.ds)[iLaw]? = some dl.fn := by unfold fnsOf; rw [List.getElem?_map, hl]; rfl
      unfold LawT.fs
      rw [List.getElem?_append_left (List.getElem?_eq_some_iff.mp h0).1]; exact h0
    have e1 : dl.ps.length = (nmsOf dl.ps).length := by simp [nmsOf]
    have e2 : dl.N.length = (nmsOf dl.N).length := by simp [nmsOf]
    have hmk' : mnOf dl ≠ [] → MkFd c0 mg base dl.nm fd := fun z => by
      have hm := mnOf_mk z
      exact mkfd dl (List.mem_filter.mpr ⟨hdl, hm⟩) fd hcode
    have r := fn_okE (N := nmsOf dl.N) (ps := nmsOf dl.ps) (all.mn (mnOf dl)) Fu (fnSc_ok q1) hT (q2.trans e1) (q3.trans e2) rfl hmk' q4
    rw [hga, ePs] at r
    exact r
end EV
end

section
set_option Elab.async false
set_option linter.all false
set_option maxRecDepth 100000
set_option maxHeartbeats 1000000
/-! EVP: laws of the evaluator for plain proofs -/
namespace EV
theorem lim_val : lim = 16777216 := rfl
/-! ### store and names -/
theorem get_at {α : Type} (S G : List α) (c : α) : (S ++ c :: G)[S.length]? = some c := by simp
theorem set_at {α : Type} (S G : List α) (c d : α) : (S ++ c :: G).set S.length d = S ++ d :: G := by
  induction S with
  | nil => rfl
  | cons x S ih => simp
theorem take_at {α : Type} (S G : List α) : (S ++ G).take S.length = S := by simp
/-! ### comprehensions -/
theorem compGo_map {t : LT} {c : Loc → Sto → R Bool} {e : Loc → Sto → R Vl} {l : Loc} {S : Sto} (f : D → D) : ∀ {xs acc : List D}, (∀ x ∈ xs, ∃ l', setT t x l = some l' ∧ c l' S = .ok true S ∧ e l' S = .ok (.d (f x)) S) → acc.length + xs.length ≤ lim →
    compGo t c e l xs acc S = .ok (acc ++ xs.map f) S
  | [], acc, _, _ => by simp [compGo]
  | x :: xs, acc, h, hl => by
    obtain ⟨l', h1, h2, h3⟩ := h x List.mem_cons_self
    have hl' : acc.length < lim := by simp at hl; omega
    simp only [compGo, h1, h2, h3, take, if_pos hl']
    rw [compGo_map f (fun y hy => h y (List.mem_cons_of_mem _ hy)) (by simp at hl ⊢; omega)]
    simp
/-- with a condition -/
theorem compGo_fm {t : LT} {c : Loc → Sto → R Bool} {e : Loc → Sto → R Vl} {l : Loc} {S : Sto} (p : D → Bool) (f : D → D) : ∀ {xs acc : List D}, (∀ x ∈ xs, ∃ l', setT t x l = some l' ∧ c l' S = .ok (p x) S ∧ (p x = true → e l' S = .ok (.d (f x)) S)) → acc.length + xs.length ≤ lim →
    compGo t c e l xs acc S = .ok (acc ++ (xs.filter p).map f) S
  | [], acc, _, _ => by simp [compGo]
  | x :: xs, acc, h, hl => by
    obtain ⟨l', h1, h2, h3⟩ := h x List.mem_cons_self
    have hl' : acc.length < lim := by simp at hl; omega
    cases hp : p x with
    | true =>
      have h4 := h3 hp
      simp only [compGo, h1, h2, hp, h4, take, if_pos hl']
      rw [compGo_fm p f (fun y hy => h y (List.mem_cons_of_mem _ hy)) (by simp at hl ⊢; omega)]
      simp [hp]
    | false =>
      simp only [compGo, h1, h2, hp]
      rw [compGo_fm p f (fun y hy => h y (List.mem_cons_of_mem _ hy)) (by simp at hl ⊢; omega)]
      simp [hp]
/-- the store may change by an invariant -/
theorem compGo_inv {t : LT} {c : Loc → Sto → R Bool} {e : Loc → Sto → R Vl} {l : Loc} (I : Sto → Prop) (P : D → Prop) : ∀ {xs acc : List D} {S : Sto}, I S → (∀ x ∈ xs, ∀ S, I S → ∃ l' y S', setT t x l = some l' ∧ c l' S = .ok true S ∧ e l' S = .ok (.d y) S' ∧ I S' ∧ P y) → acc.length + xs.length ≤ lim →
    ∃ ys S', compGo t c e l xs acc S = .ok (acc ++ ys) S' ∧ ys.length = xs.length ∧ (∀ y ∈ ys, P y) ∧ I S'
  | [], acc, S, h0, _, _ => ⟨[], S, by simp [compGo], rfl, by simp, h0⟩
  | x :: xs, acc, S, h0, h, hl => by
    obtain ⟨l', y, S1, h1, h2, h3, h4, h5⟩ := h x List.mem_cons_self S h0
    have hl' : acc.length < lim := by simp at hl; omega
    obtain ⟨ys, S2, q1, q2, q3, q4⟩ := compGo_inv I P (acc := acc ++ [y]) h4 (fun z hz => h z (List.mem_cons_of_mem _ hz)) (by simp at hl ⊢; omega)
    refine ⟨y :: ys, S2, ?_, by simp [q2], fun z hz => ?_, q4⟩
    · simp only [compGo, h1, h2, h3, take, if_pos hl', q1]
      simp
    · rcases List.mem_cons.mp hz with rfl | hz
      · exact h5
      · exact q3 z hz
/-! ### loops -/
theorem forGo_inv {t : LT} {b : Loc → Sto → RS} (I : Nat → Loc → Sto → Prop) : ∀ {xs : List D} {k : Nat} {l : Loc} {S : Sto}, I k l S → (∀ i x l S, xs[i]? = some x → I (k + i) l S → ∃ l' l2 S2, setT t x l = some l' ∧ b l' S = .nx l2 S2 ∧ I (k + i + 1) l2 S2) →
    ∃ l' S', forGo t b xs l S = .nx l' S' ∧ I (k + xs.length) l' S'
  | [], k, l, S, h0, _ => ⟨l, S, rfl, h0⟩
  | x :: xs, k, l, S, h0, h => by
    obtain ⟨l', l2, S2, h1, h2, h3⟩ := h 0 x l S rfl h0
    obtain ⟨l3, S3, q1, q2⟩ := forGo_inv I (xs := xs) (k := k + 1) (l := l2) (S := S2) h3 fun i y l S e hI => by
      have := h (i + 1) y l S (by simpa using e) (by rw [show k + (i + 1) = k + 1 + i by omega]; exact hI)
      rw [show k + (i + 1) = k + 1 + i by omega] at this
      exact this
    refine ⟨l3, S3, ?_, by rw [show k + (x :: xs).length = k + 1 + xs.length by simp; omega]; exact q2⟩
    simp only [forGo, h1, h2, q1]
theorem ev_comp_map {V : Env} {elt : LE} {g : LI} {t : LT} {own : List Nat} {l : Loc} {S : Sto} {ds : List D} (f : D → D) (h1 : evI V g l S = .ok (.items ds) S) (h2 : ∀ x ∈ ds, ∃ l', setT t x (wipeL l own) = some l' ∧ evE V elt l' S = .ok (.d (f x)) S) (h3 : ds.length ≤ lim) :
    evE V (.comp elt g t .no own) l S = .ok (.d (.lst (ds.map f))) S := by
  simp only [evE, h1, R.bind_ok, compR]
  rw [compGo_map f (fun x hx => ?_) (by simpa using h3)]
  · simp
  · obtain ⟨l', q1, q2⟩ := h2 x hx
    exact ⟨l', q1, rfl, q2⟩
theorem ev_comp_fm {V : Env} {elt cn : LE} {g : LI} {t : LT} {own : List Nat} {l : Loc} {S : Sto} {ds : List D} (p : D → Bool) (f : D → D) (h1 : evI V g l S = .ok (.items ds) S) (h2 : ∀ x ∈ ds, ∃ l', setT t x (wipeL l own) = some l' ∧ evE V cn l' S = .ok (.d (.bl (p x))) S ∧ (p x = true → evE V elt l' S = .ok (.d (f x)) S)) (h3 : ds.length ≤ lim) :
    evE V (.comp elt g t (.yes cn) own) l S = .ok (.d (.lst ((ds.filter p).map f))) S := by
  simp only [evE, h1, R.bind_ok, compR]
  rw [compGo_fm p f (fun x hx => ?_) (by simpa using h3)]
  · simp
  · obtain ⟨l', q1, q2, q3⟩ := h2 x hx
    exact ⟨l', q1, by simp [evC, q2, asBool], q3⟩
theorem ev_comp_inv {V : Env} {elt : LE} {g : LI} {t : LT} {own : List Nat} {l : Loc} {S S0 : Sto} {ds : List D} (I : Sto → Prop) (P : D → Prop) (h1 : evI V g l S0 = .ok (.items ds) S) (h0 : I S) (h2 : ∀ x ∈ ds, ∀ S, I S → ∃ l' y S', setT t x (wipeL l own) = some l' ∧ evE V elt l' S = .ok (.d y) S' ∧ I S' ∧ P y) (h3 : ds.length ≤ lim) :
    ∃ ys S', evE V (.comp elt g t .no own) l S0 = .ok (.d (.lst ys)) S' ∧ ys.length = ds.length ∧ (∀ y ∈ ys, P y) ∧ I S' := by
  obtain ⟨ys, S', q1, q2, q3, q4⟩ := compGo_inv (t := t) (c := evC V .no) (e := evE V elt) (l := wipeL l own) I P (xs := ds) (acc := []) h0 (fun x hx S hS => by
    obtain ⟨l', y, S', r1, r2, r3, r4⟩ := h2 x hx S hS
    exact ⟨l', y, S', r1, rfl, r2, r3, r4⟩) (by simpa using h3)
  refine ⟨ys, S', ?_, q2, q3, q4⟩
  simp only [evE, h1, R.bind_ok, compR, q1]
  simp
/-! ### constructs, one by one -/
theorem ev_op {V : Env} {o : Op} {a b : LE} {l : Loc} {S S1 S2 : Sto} {x y z : D} (h1 : evE V a l S = .ok (.d x) S1) (h2 : evE V b l S1 = .ok (.d y) S2) (h3 : opD o x y = some z) : evE V (.op o a b) l S = .ok (.d z) S2 := by
  simp only [evE, h1, h2, R.bind_ok, peek, h3, R.opt_some]
theorem ev_bi1 {V : Env} {b : Bi} {e : LE} {l : Loc} {S S1 : Sto} {x z : D} (h1 : evE V e l S = .ok (.d x) S1) (h : biD b [x] = some z) : evE V (.bi b (.cons e .nil)) l S = .ok (.d z) S1 := by
  have e : biV b [.d x] S1 = some z := by
    cases b <;> first
      | exact (show biD _ [x] = some z from h)
      | (cases x <;> cases h)
  simp only [evE, evEs, h1, R.bind_ok, e, R.opt_some]
theorem ev_lst1 {V : Env} {e : LE} {l : Loc} {S S1 : Sto} {x : D} (h1 : evE V e l S = .ok (.d x) S1) : evE V (.lst (.cons e .nil)) l S = .ok (.d (.lst [x])) S1 := by
  simp only [evE, evEs, h1, R.bind_ok, takes, take, R.opt_some]
theorem ev_thaw {V : Env} {e : LE} {l : Loc} {S S1 : Sto} {ds : List D} (h1 : evE V e l S = .ok (.d (.lst ds)) S1) : evE V (.thaw e) l S = .ok (.ref S1.length) (S1 ++ [.lst ds]) := by
  simp only [evE, h1, R.bind_ok]
theorem ev_var {V : Env} {i : Nat} {l : Loc} {S : Sto} {v : Vl} (h : l[i]? = some (some v)) : evE V (.var i) l S = .ok v S := by simp only [evE, h]
theorem ev_lit {V : Env} {d : D} {l : Loc} {S : Sto} : evE V (.lit d) l S = .ok (.d d) S := by simp only [evE]
theorem ev_asgD {V : Env} {i : Nat} {e : LE} {l : Loc} {S S1 : Sto} {v : Vl} (h1 : evE V e l S = .ok v S1) : evS V (.asg (.nm i) e) l S = .nx (l.set i (some v)) S1 := by
  simp only [evS, h1, R.st_ok, setTV, RS.opt_some]
theorem ev_rng2 {V : Env} {a b : LE} {l : Loc} {S S1 S2 : Sto} {i j : Int} (h1 : evE V a l S = .ok (.d (.int i)) S1) (h2 : evE V b l S1 = .ok (.d (.int j)) S2) (hi : wideI i = true) (hj : wideI j = true) : evI V (.rng2 a b) l S = .ok (.items (rangeD i j)) S2 := by
  simp only [evI, h1, h2, R.bind_ok, hi, hj, Bool.and_self, if_true]
theorem ev_rng1 {V : Env} {a : LE} {l : Loc} {S S1 : Sto} {j : Int} (h1 : evE V a l S = .ok (.d (.int j)) S1) (hj : wideI j = true) : evI V (.rng1 a) l S = .ok (.items (rangeD 0 j)) S1 := by
  simp only [evI, h1, R.bind_ok, hj, if_true]
theorem ev_for {V : Env} {t : LT} {g : LI} {b : LSs} {l : Loc} {S S1 : Sto} {ds : List D} (h : evI V g l S = .ok (.items ds) S1) : evS V (.for_ t g b) l S = forGo t (evSs V b) ds l S1 := by
  simp only [evS, h, R.st_ok, forR]
theorem opD_addI (i j : Int) : opD .add (.int i) (.int j) = some (.int (i + j)) := rfl
theorem opD_subI (i j : Int) : opD .sub (.int i) (.int j) = some (.int (i - j)) := rfl
end EV
end

section
set_option Elab.async false
set_option linter.all false
set_option maxRecDepth 100000
set_option maxHeartbeats 1000000
/-! EVQ: more laws of the evaluator -/
namespace EV
theorem ev_if_t {V : Env} {c : LE} {a b : LSs} {l : Loc} {S : Sto} (h : evE V c l S = .ok (.d (.bl true)) S) : evS V (.ife c a b) l S = evSs V a l S := by simp only [evS, h, R.st_ok, asBool, RS.opt_some, if_true]
theorem ev_if_f {V : Env} {c : LE} {a b : LSs} {l : Loc} {S : Sto} (h : evE V c l S = .ok (.d (.bl false)) S) : evS V (.ife c a b) l S = evSs V b l S := by simp only [evS, h, R.st_ok, asBool, RS.opt_some]; rfl
end EV
end

section
set_option Elab.async false
set_option linter.all false
set_option maxRecDepth 100000
set_option maxHeartbeats 4000000
/-! EVR: the laws' own hand of draws -/
namespace EV
def drawBody (q : Int) : LSs := (.cons (.ife (.and (.cmp .eq (.idx (.var 0) (.lit (.int 2))) (.lit (.int 0))) (.cmp .lt (.idx (.var 0) (.lit (.int 1))) (.bi .len (.cons (.idx (.var 0) (.lit (.int 0))) .nil)))) (.cons (.asg (.nm 3) (.idx (.idx (.var 0) (.lit (.int 0))) (.idx (.var 0) (.lit (.int 1)))))
  (.cons (.sub (.var 0) (.lit (.int 1)) (.op .add (.idx (.var 0) (.lit (.int 1))) (.lit (.int 1))))
  (.cons (.sub (.var 0) (.lit (.int 3)) (.op .mod (.bi .int (.cons (.op .add (.op .add (.op .mul (.idx (.var 0) (.lit (.int 3))) (.lit (.int 69621))) (.op .mul (.var 3) (.lit (.int 40692)))) (.lit (.int q))) .nil)) (.lit (.int 2147483629))))
  (.cons (.ife (.cmp .ge (.var 3) (.op .pow (.lit (.int 10)) (.lit (.int 18)))) (.cons (.sub (.var 0) (.lit (.int 2)) (.var 3))
  .nil) .nil)
  .nil)))) .nil)
  (.cons (.ife (.cmp .gt (.idx (.var 0) (.lit (.int 2))) (.lit (.int 0))) (.cons (.asg (.nm 4) (.op .mod (.bi .int (.cons (.idx (.var 0) (.lit (.int 2))) .nil)) (.var 1)))
  (.cons (.sub (.var 0) (.lit (.int 2)) (.op .fdiv (.idx (.var 0) (.lit (.int 2))) (.var 1)))
  (.cons (.ret (.var 4))
  .nil))) .nil)
  (.cons (.sub (.var 0) (.lit (.int 4)) (.op .add (.idx (.var 0) (.lit (.int 4))) (.lit (.int 1))))
  (.cons (.asg (.nm 2) (.op .mod (.bi .int (.cons (.op .mul (.bi .int (.cons (.op .add (.idx (.var 0) (.lit (.int 3))) (.op .mul (.lit (.int 7919)) (.idx (.var 0) (.lit (.int 4))))) .nil)) (.lit (.int 48271))) .nil)) (.lit (.int 2147483647))))
  (.cons (.asg (.nm 2) (.op .mod (.bi .int (.cons (.op .mul (.var 2) (.op .add (.op .fdiv (.var 2) (.lit (.int 1009))) (.lit (.int 69621)))) .nil)) (.lit (.int 2147483647))))
  (.cons (.asg (.nm 2) (.op .mod (.bi .int (.cons (.op .mul (.var 2) (.op .add (.op .fdiv (.var 2) (.lit (.int 2003))) (.lit (.int 40014)))) .nil)) (.lit (.int 2147483563))))
  (.cons (.ret (.op .mod (.bi .int (.cons (.op .fdiv (.var 2) (.lit (.int 16))) .nil)) (.var 1)))
  .nil)))))))
theorem ev_ixR {V : Env} {i r j : Nat} {k : Int} {l : Loc} {S : Sto} {ds : List D} {x : D} (h1 : l[i]? = some (some (.ref r))) (h2 : (S : List Cell)[r]? = some (.lst ds)) (h3 : ixI ds.length k = some j) (h4 : ds[j]? = some x) : evE V (.idx (.var i) (.lit (.int k))) l S = .ok (.d x) S := by
  simp only [evE, h1, R.bind_ok, idxV, dicOf, ditOf, h2, peek, idxD, h3, Option.bind_some, h4, R.opt_some]
theorem ev_subR {V : Env} {i r m : Nat} {k : Int} {e : LE} {l : Loc} {S : Sto} {x : D} {ds : List D} (he : evE V e l S = .ok (.d x) S) (h1 : l[i]? = some (some (.ref r))) (hn : (S : List Cell)[r]? = some (.lst ds)) (hk : ixI ds.length k = some m) :
    evS V (.sub (.var i) (.lit (.int k)) e) l S = .nx l (S.set r (.lst (ds.set m x))) := by
  simp only [evS, he, R.st_ok]
  simp only [evE, h1, R.st_ok, take, RS.opt_some, subC, hn, hk]
theorem ev_int1 {V : Env} {e : LE} {l : Loc} {S S1 : Sto} {i : Int} (h1 : evE V e l S = .ok (.d (.int i)) S1) : evE V (.bi .int (.cons e .nil)) l S = .ok (.d (.int i)) S1 := ev_bi1 h1 rfl
theorem ev_cmp {V : Env} {o : Cm} {a b : LE} {l : Loc} {S S1 S2 : Sto} {x y : D} {r : Bool} (h1 : evE V a l S = .ok (.d x) S1) (h2 : evE V b l S1 = .ok (.d y) S2) (h : cmD o x y = some r) : evE V (.cmp o a b) l S = .ok (.d (.bl r)) S2 := by
  simp only [evE, h1, h2, R.bind_ok, cmV, dicOf, ditOf, peek, h, R.opt_some]
theorem ev_and_f {V : Env} {a b : LE} {l : Loc} {S S1 : Sto} (h1 : evE V a l S = .ok (.d (.bl false)) S1) : evE V (.and a b) l S = .ok (.d (.bl false)) S1 := by
  simp only [evE, h1, R.bind_ok, asBool, R.opt_some]; rfl
theorem ev_and_t {V : Env} {a b : LE} {l : Loc} {S S1 S2 : Sto} {r : Bool} (h1 : evE V a l S = .ok (.d (.bl true)) S1) (h2 : evE V b l S1 = .ok (.d (.bl r)) S2) : evE V (.and a b) l S = .ok (.d (.bl r)) S2 := by
  simp only [evE, h1, h2, R.bind_ok, asBool, R.opt_some, if_true]
theorem ev_or_t {V : Env} {a b : LE} {l : Loc} {S S1 : Sto} (h1 : evE V a l S = .ok (.d (.bl true)) S1) : evE V (.or a b) l S = .ok (.d (.bl true)) S1 := by
  simp only [evE, h1, R.bind_ok, asBool, R.opt_some, if_true]
theorem ev_or_f {V : Env} {a b : LE} {l : Loc} {S S1 S2 : Sto} {r : Bool} (h1 : evE V a l S = .ok (.d (.bl false)) S1) (h2 : evE V b l S1 = .ok (.d (.bl r)) S2) : evE V (.or a b) l S = .ok (.d (.bl r)) S2 := by
  simp only [evE, h1, h2, R.bind_ok, asBool, R.opt_some]; rfl
theorem ev_not {V : Env} {a : LE} {l : Loc} {S S1 : Sto} {r : Bool} (h1 : evE V a l S = .ok (.d (.bl r)) S1) : evE V (.not a) l S = .ok (.d (.bl (!r))) S1 := by
  simp only [evE, h1, R.bind_ok, asBool, R.opt_some]
theorem ev_ret {V : Env} {e : LE} {l : Loc} {S S1 : Sto} {x : D} (h : evE V e l S = .ok (.d x) S1) : evS V (.ret e) l S = .ret (.d x) S1 := by simp only [evS, h, R.st_ok, take, RS.opt_some]
theorem evSs_cons {V : Env} {s : LS} {ss : LSs} {l l1 : Loc} {S S1 : Sto} (h : evS V s l S = .nx l1 S1) : evSs V (.cons s ss) l S = evSs V ss l1 S1 := by simp only [evSs, h]
theorem evSs_ret {V : Env} {s : LS} {ss : LSs} {l : Loc} {S S1 : Sto} {v : Vl} (h : evS V s l S = .ret v S1) : evSs V (.cons s ss) l S = .ret v S1 := by simp only [evSs, h]
theorem opD_mul {i j : Int} (h : smallI j = true) : opD .mul (.int i) (.int j) = some (.int (i * j)) := by
  show (if smallI i || smallI j then some (D.int (i * j)) else none) = _
  rw [if_pos (by rw [h, Bool.or_true])]
theorem opD_mul' {i j : Int} (h : smallI i = true) : opD .mul (.int i) (.int j) = some (.int (i * j)) := by
  show (if smallI i || smallI j then some (D.int (i * j)) else none) = _
  rw [if_pos (by rw [h, Bool.true_or])]
theorem opD_mod {i j : Int} (h : 0 < j) : opD .mod (.int i) (.int j) = some (.int (i % j)) := by
  show (if 0 < j then some (D.int (i % j)) else none) = _
  rw [if_pos h]
theorem opD_div {i j : Int} (h : 0 < j) (h2 : j < 1073741824) : opD .fdiv (.int i) (.int j) = some (.int (i / j)) := by
  show (if 0 < j ∧ j < 1073741824 then some (D.int (i / j)) else none) = _
  rw [if_pos ⟨h, h2⟩]
theorem small_of {i : Int} (h1 : 0 ≤ i) (h2 : i < 18446744073709551616) : smallI i = true := by
  unfold smallI
  rw [Bool.and_eq_true]
  exact ⟨decide_eq_true (by omega), decide_eq_true (by omega)⟩
theorem pow10 : opD .pow (.int 10) (.int 18) = some (.int 1000000000000000000) := by
  show (if (0 : Int) ≤ 18 ∧ (18 : Int) ≤ 1000000 ∧ (10 : Int).natAbs < 2 ^ 64 then some (D.int ((10 : Int) ^ (18 : Int).toNat)) else none) = _
  rw [if_pos (by decide)]
  exact congrArg (fun z => some (D.int z)) (by decide)
/-- a hand: cells, place, what is drawn from, seed, count -/
structure Hd (hd : List D) : Prop where
  ex : ∃ (cells : List Int) (p acc seed cnt : Int), hd = [.lst (cells.map .int), .int p, .int acc, .int seed, .int cnt] ∧ 0 ≤ p ∧ 0 ≤ acc

theorem draw_tail {V : Env} {r : Nat} {St : Sto} {cells : List Int} {p acc seed cnt many : Int} {o2 o3 o4 : Option Vl} (hr : (St : List Cell)[r]? = some (.lst [.lst (cells.map .int), .int p, .int acc, .int seed, .int cnt])) (hp : 0 ≤ p) (ha : 0 ≤ acc) (hm : 1 ≤ many) (hm2 : many < 1073741824) :
    ∃ d hd', 0 ≤ d ∧ d < many ∧ Hd hd' ∧ evSs V (.cons (.ife (.cmp .gt (.idx (.var 0) (.lit (.int 2))) (.lit (.int 0))) (.cons (.asg (.nm 4) (.op .mod (.bi .int (.cons (.idx (.var 0) (.lit (.int 2))) .nil)) (.var 1)))
  (.cons (.sub (.var 0) (.lit (.int 2)) (.op .fdiv (.idx (.var 0) (.lit (.int 2))) (.var 1)))
  (.cons (.ret (.var 4))
  .nil))) .nil)
  (.cons (.sub (.var 0) (.lit (.int 4)) (.op .add (.idx (.var 0) (.lit (.int 4))) (.lit (.int 1))))
  (.cons (.asg (.nm 2) (.op .mod (.bi .int (.cons (.op .mul (.bi .int (.cons (.op .add (.idx (.var 0) (.lit (.int 3))) (.op .mul (.lit (.int 7919)) (.idx (.var 0) (.lit (.int 4))))) .nil)) (.lit (.int 48271))) .nil)) (.lit (.int 2147483647))))
  (.cons (.asg (.nm 2) (.op .mod (.bi .int (.cons (.op .mul (.var 2) (.op .add (.op .fdiv (.var 2) (.lit (.int 1009))) (.lit (.int 69621)))) .nil)) (.lit (.int 2147483647))))
  (.cons (.asg (.nm 2) (.op .mod (.bi .int (.cons (.op .mul (.var 2) (.op .add (.op .fdiv (.var 2) (.lit (.int 2003))) (.lit (.int 40014)))) .nil)) (.lit (.int 2147483563))))
  (.cons (.ret (.op .mod (.bi .int (.cons (.op .fdiv (.var 2) (.lit (.int 16))) .nil)) (.var 1)))
  .nil)))))) [some (.ref r), some (.d (.int many)), o2, o3, o4] St = .ret (.d (.int d)) (St.set r (.lst hd')) := by
  have rd : ∀ {St : Sto} {l : Loc} {hd : List D} (k : Nat) (x : D), l[0]? = some (some (.ref r)) → (St : List Cell)[r]? = some (.lst hd) → hd.length = 5 → k < 5 → hd[k]? = some x → evE V (.idx (.var 0) (.lit (.int (k : Nat)))) l St = .ok (.d x) St := fun {St l hd} k x h0 h1 h2 h3 h4 => by
    refine ev_ixR h0 h1 (j := k) ?_ h4
    rw [h2]
    unfold ixI
    rw [if_pos (by omega), if_pos (by omega)]
    simp
  by_cases hpos : 0 < acc
  · have c : evE V (.cmp .gt (.idx (.var 0) (.lit (.int 2))) (.lit (.int 0))) [some (.ref r), some (.d (.int many)), o2, o3, o4] St = .ok (.d (.bl true)) St := ev_cmp (rd 2 _ rfl hr rfl (by decide) rfl) ev_lit (by show some (decide (0 < acc)) = _; rw [decide_eq_true hpos])
    have s1 := ev_asgD (i := 4) (ev_op (ev_int1 (rd (l := [some (.ref r), some (.d (.int many)), o2, o3, o4]) 2 _ rfl hr rfl (by decide) rfl)) (ev_var (i := 1) rfl) (opD_mod (i := acc) (j := many) (by omega)))
    have s2 := ev_subR (V := V) (i := 0) (k := 2) (m := 2) (e := .op .fdiv (.idx (.var 0) (.lit (.int 2))) (.var 1)) (l := [some (.ref r), some (.d (.int many)), o2, o3, some (.d (.int (acc % many)))]) (ev_op (rd 2 _ rfl hr rfl (by decide) rfl) (ev_var (i := 1) rfl) (opD_div (i := acc) (j := many) (by omega) hm2)) rfl hr rfl
    refine ⟨acc % many, [.lst (cells.map .int), .int p, .int (acc / many), .int seed, .int cnt], Int.emod_nonneg _ (by omega), Int.emod_lt_of_pos _ (by omega), ⟨cells, p, acc / many, seed, cnt, rfl, hp, Int.ediv_nonneg ha (by omega)⟩, ?_⟩
    refine evSs_ret ((ev_if_t c).trans ((evSs_cons s1).trans ((evSs_cons s2).trans (evSs_ret (ev_ret (ev_var rfl))))))
  · have c : evE V (.cmp .gt (.idx (.var 0) (.lit (.int 2))) (.lit (.int 0))) [some (.ref r), some (.d (.int many)), o2, o3, o4] St = .ok (.d (.bl false)) St := ev_cmp (rd 2 _ rfl hr rfl (by decide) rfl) ev_lit (by show some (decide (0 < acc)) = _; rw [decide_eq_false hpos])
    have hlt := (List.getElem?_eq_some_iff.mp hr).1
    have s1 := ev_subR (V := V) (i := 0) (k := 4) (m := 4) (e := .op .add (.idx (.var 0) (.lit (.int 4))) (.lit (.int 1))) (l := [some (.ref r), some (.d (.int many)), o2, o3, o4]) (ev_op (rd 4 _ rfl hr rfl (by decide) rfl) ev_lit (opD_addI _ _)) rfl hr rfl
    obtain ⟨S1, hS1⟩ : ∃ S1, S1 = St.set r (.lst [.lst (cells.map .int), .int p, .int acc, .int seed, .int (cnt + 1)]) := ⟨_, rfl⟩
    have hr1 : (S1 : List Cell)[r]? = some (.lst [.lst (cells.map .int), .int p, .int acc, .int seed, .int (cnt + 1)]) := by rw [hS1]; exact List.getElem?_set_self hlt
    have s2 := ev_asgD (i := 2) (ev_op (ev_int1 (ev_op (ev_int1 (ev_op (rd (l := [some (.ref r), some (.d (.int many)), o2, o3, o4]) 3 _ rfl hr1 rfl (by decide) rfl) (ev_op (ev_lit (d := .int 7919)) (rd 4 _ rfl hr1 rfl (by decide) rfl) (opD_mul' (i := 7919) (j := cnt + 1) (by decide))) (opD_addI seed (7919 * (cnt + 1))))) (ev_lit (d := .int 48271)) (opD_mul (i := seed + 7919 * (cnt + 1)) (j := 48271) (by decide)))) (ev_lit (d := .int 2147483647)) (opD_mod (i := (seed + 7919 * (cnt + 1)) * 48271) (j := 2147483647) (by decide)))
    obtain ⟨n1, hn1⟩ : ∃ n1, n1 = (seed + 7919 * (cnt + 1)) * 48271 % 2147483647 := ⟨_, rfl⟩
    rw [← hn1] at s2
    have b1 : 0 ≤ n1 := by rw [hn1]; exact Int.emod_nonneg _ (by decide)
    have b2 : n1 < 2147483647 := by rw [hn1]; exact Int.emod_lt_of_pos _ (by decide)
    have s3 := ev_asgD (i := 2) (S := S1) (ev_op (V := V) (ev_int1 (ev_op (ev_var (i := 2) (l := [some (.ref r), some (.d (.int many)), some (.d (.int n1)), o3, o4]) rfl) (ev_op (ev_op (ev_var (i := 2) rfl) (ev_lit (d := .int 1009)) (opD_div (i := n1) (j := 1009) (by decide) (by decide))) (ev_lit (d := .int 69621)) (opD_addI (n1 / 1009) 69621)) (opD_mul' (i := n1) (j := n1 / 1009 + 69621) (small_of b1 (by omega))))) (ev_lit (d := .int 2147483647)) (opD_mod (i := n1 * (n1 / 1009 + 69621)) (j := 2147483647) (by decide)))
    obtain ⟨n2, hn2⟩ : ∃ n2, n2 = n1 * (n1 / 1009 + 69621) % 2147483647 := ⟨_, rfl⟩
    rw [← hn2] at s3
    have b3 : 0 ≤ n2 := by rw [hn2]; exact Int.emod_nonneg _ (by decide)
    have b4 : n2 < 2147483647 := by rw [hn2]; exact Int.emod_lt_of_pos _ (by decide)
    have s4 := ev_asgD (i := 2) (S := S1) (ev_op (V := V) (ev_int1 (ev_op (ev_var (i := 2) (l := [some (.ref r), some (.d (.int many)), some (.d (.int n2)), o3, o4]) rfl) (ev_op (ev_op (ev_var (i := 2) rfl) (ev_lit (d := .int 2003)) (opD_div (i := n2) (j := 2003) (by decide) (by decide))) (ev_lit (d := .int 40014)) (opD_addI (n2 / 2003) 40014)) (opD_mul' (i := n2) (j := n2 / 2003 + 40014) (small_of b3 (by omega))))) (ev_lit (d := .int 2147483563)) (opD_mod (i := n2 * (n2 / 2003 + 40014)) (j := 2147483563) (by decide)))
    obtain ⟨n3, hn3⟩ : ∃ n3, n3 = n2 * (n2 / 2003 + 40014) % 2147483563 := ⟨_, rfl⟩
    rw [← hn3] at s4
    have s5 := ev_ret (V := V) (S := S1) (ev_op (ev_int1 (ev_op (ev_var (i := 2) (l := [some (.ref r), some (.d (.int many)), some (.d (.int n3)), o3, o4]) rfl) (ev_lit (d := .int 16)) (opD_div (i := n3) (j := 16) (by decide) (by decide)))) (ev_var (i := 1) rfl) (opD_mod (i := n3 / 16) (j := many) (by omega)))
    refine ⟨n3 / 16 % many, [.lst (cells.map .int), .int p, .int acc, .int seed, .int (cnt + 1)], Int.emod_nonneg _ (by omega), Int.emod_lt_of_pos _ (by omega), ⟨cells, p, acc, seed, cnt + 1, rfl, hp, ha⟩, ?_⟩
    rw [← hS1]
    have s1 : evS V (.sub (.var 0) (.lit (.int 4)) (.op .add (.idx (.var 0) (.lit (.int 4))) (.lit (.int 1)))) [some (.ref r), some (.d (.int many)), o2, o3, o4] St = .nx [some (.ref r), some (.d (.int many)), o2, o3, o4] S1 := by rw [hS1]; exact s1
    refine (evSs_cons ((ev_if_f c).trans rfl)).trans ((evSs_cons s1).trans ((evSs_cons s2).trans ((evSs_cons s3).trans ((evSs_cons s4).trans (evSs_ret s5)))))
theorem cells_at {cells : List Int} {p : Int} (h0 : 0 ≤ p) (h1 : p < cells.length) : ∃ c, ixI (cells.map D.int).length p = some p.toNat ∧ (cells.map D.int)[p.toNat]? = some (.int c) := by
  have hl : p.toNat < cells.length := by omega
  refine ⟨cells[p.toNat], ?_, by rw [List.getElem?_map, List.getElem?_eq_getElem hl]; rfl⟩
  unfold ixI
  rw [List.length_map, if_pos h0, if_pos h1]
theorem draw_ok {V : Env} {q : Int} {r : Nat} {St : Sto} {hd : List D} {many : Int} (hr : (St : List Cell)[r]? = some (.lst hd)) (hH : Hd hd) (hm : 1 ≤ many) (hm2 : many < 1073741824) :
    ∃ d hd', 0 ≤ d ∧ d < many ∧ Hd hd' ∧ evSs V (drawBody q) [some (.ref r), some (.d (.int many)), none, none, none] St = .ret (.d (.int d)) (St.set r (.lst hd')) := by
  obtain ⟨cells, p, acc, seed, cnt, rfl, hp, ha⟩ := hH.ex
  have hlt := (List.getElem?_eq_some_iff.mp hr).1
  have rd : ∀ {St : Sto} {l : Loc} {hd : List D} (k : Nat) (x : D), l[0]? = some (some (.ref r)) → (St : List Cell)[r]? = some (.lst hd) → hd.length = 5 → k < 5 → hd[k]? = some x → evE V (.idx (.var 0) (.lit (.int (k : Nat)))) l St = .ok (.d x) St := fun {St l hd} k x h0 h1 h2 h3 h4 => by
    refine ev_ixR h0 h1 (j := k) ?_ h4
    rw [h2]
    unfold ixI
    rw [if_pos (by omega), if_pos (by omega)]
    simp
  by_cases hz : acc = 0
  · have c1 : evE V (.cmp .eq (.idx (.var 0) (.lit (.int 2))) (.lit (.int 0))) [some (.ref r), some (.d (.int many)), none, none, none] St = .ok (.d (.bl true)) St := ev_cmp (rd 2 _ rfl hr rfl (by decide) rfl) ev_lit (by subst hz; rfl)
    by_cases hlen : p < cells.length
    · have c2 : evE V (.cmp .lt (.idx (.var 0) (.lit (.int 1))) (.bi .len (.cons (.idx (.var 0) (.lit (.int 0))) .nil))) [some (.ref r), some (.d (.int many)), none, none, none] St = .ok (.d (.bl true)) St :=
        ev_cmp (rd 1 _ rfl hr rfl (by decide) rfl) (ev_bi1 (rd 0 _ rfl hr rfl (by decide) rfl) (z := .int (cells.length : Nat)) (by show some (D.int ((cells.map D.int).length : Nat)) = _; rw [List.length_map])) (by show some (decide (p < (cells.length : Nat))) = _; rw [decide_eq_true hlen])
      obtain ⟨c, e1, e2⟩ := cells_at hp hlen
      have s1 : evS V (.asg (.nm 3) (.idx (.idx (.var 0) (.lit (.int 0))) (.idx (.var 0) (.lit (.int 1))))) [some (.ref r), some (.d (.int many)), none, none, none] St = .nx [some (.ref r), some (.d (.int many)), none, some (.d (.int c)), none] St := by
        refine ev_asgD (v := .d (.int c)) ?_
        have q1 := rd (l := [some (.ref r), some (.d (.int many)), none, none, none]) 0 _ rfl hr rfl (by decide) rfl
        have q2 := rd (l := [some (.ref r), some (.d (.int many)), none, none, none]) 1 _ rfl hr rfl (by decide) rfl
        show (evE V (.idx (.var 0) (.lit (.int 0))) _ _).bind _ = _
        have q1 : evE V (.idx (.var 0) (.lit (.int 0))) [some (.ref r), some (.d (.int many)), none, none, none] St = .ok (.d (.lst (cells.map .int))) St := q1
        have q2 : evE V (.idx (.var 0) (.lit (.int 1))) [some (.ref r), some (.d (.int many)), none, none, none] St = .ok (.d (.int p)) St := q2
        rw [q1]
        simp only [R.bind_ok, q2, idxV, dicOf, ditOf, peek, idxD, e1, Option.bind_some, e2, R.opt_some]
      have s2 := ev_subR (V := V) (i := 0) (k := 1) (m := 1) (e := .op .add (.idx (.var 0) (.lit (.int 1))) (.lit (.int 1))) (l := [some (.ref r), some (.d (.int many)), none, some (.d (.int c)), none]) (ev_op (rd 1 _ rfl hr rfl (by decide) rfl) ev_lit (opD_addI _ _)) rfl hr rfl
      obtain ⟨S1, hS1⟩ : ∃ S1, S1 = St.set r (.lst [.lst (cells.map .int), .int (p + 1), .int acc, .int seed, .int cnt]) := ⟨_, rfl⟩
      have hr1 : (S1 : List Cell)[r]? = some (.lst [.lst (cells.map .int), .int (p + 1), .int acc, .int seed, .int cnt]) := by rw [hS1]; exact List.getElem?_set_self hlt
      have hlt1 := (List.getElem?_eq_some_iff.mp hr1).1
      have s3 := ev_subR (V := V) (i := 0) (k := 3) (m := 3) (l := [some (.ref r), some (.d (.int many)), none, some (.d (.int c)), none]) (ev_op (ev_int1 (ev_op (ev_op (ev_op (rd 3 _ rfl hr1 rfl (by decide) rfl) (ev_lit (d := .int 69621)) (opD_mul (i := seed) (j := 69621) (by decide))) (ev_op (ev_var (i := 3) rfl) (ev_lit (d := .int 40692)) (opD_mul (i := c) (j := 40692) (by decide))) (opD_addI (seed * 69621) (c * 40692))) (ev_lit (d := .int q)) (opD_addI (seed * 69621 + c * 40692) q))) (ev_lit (d := .int 2147483629)) (opD_mod (i := seed * 69621 + c * 40692 + q) (j := 2147483629) (by decide))) rfl hr1 rfl
      obtain ⟨sd, hsd⟩ : ∃ sd, sd = (seed * 69621 + c * 40692 + q) % 2147483629 := ⟨_, rfl⟩
      rw [← hsd] at s3
      obtain ⟨S2, hS2⟩ : ∃ S2, S2 = S1.set r (.lst [.lst (cells.map .int), .int (p + 1), .int acc, .int sd, .int cnt]) := ⟨_, rfl⟩
      have hr2 : (S2 : List Cell)[r]? = some (.lst [.lst (cells.map .int), .int (p + 1), .int acc, .int sd, .int cnt]) := by rw [hS2]; exact List.getElem?_set_self hlt1
      have hlt2 := (List.getElem?_eq_some_iff.mp hr2).1
      have s4 : ∃ acc', 0 ≤ acc' ∧ evS V (.ife (.cmp .ge (.var 3) (.op .pow (.lit (.int 10)) (.lit (.int 18)))) (.cons (.sub (.var 0) (.lit (.int 2)) (.var 3)) .nil) .nil) [some (.ref r), some (.d (.int many)), none, some (.d (.int c)), none] S2 = .nx [some (.ref r), some (.d (.int many)), none, some (.d (.int c)), none] (S2.set r (.lst [.lst (cells.map .int), .int (p + 1), .int acc', .int sd, .int cnt])) := by
        by_cases hbig : 1000000000000000000 ≤ c
        · have k : evE V (.cmp .ge (.var 3) (.op .pow (.lit (.int 10)) (.lit (.int 18)))) [some (.ref r), some (.d (.int many)), none, some (.d (.int c)), none] S2 = .ok (.d (.bl true)) S2 := ev_cmp (ev_var rfl) (ev_op ev_lit ev_lit pow10) (by show some (decide (1000000000000000000 ≤ c)) = _; rw [decide_eq_true hbig])
          have q := ev_subR (V := V) (i := 0) (k := 2) (m := 2) (e := .var 3) (l := [some (.ref r), some (.d (.int many)), none, some (.d (.int c)), none]) (ev_var rfl) rfl hr2 rfl
          exact ⟨c, by omega, (ev_if_t k).trans ((evSs_cons q).trans rfl)⟩
        · have k : evE V (.cmp .ge (.var 3) (.op .pow (.lit (.int 10)) (.lit (.int 18)))) [some (.ref r), some (.d (.int many)), none, some (.d (.int c)), none] S2 = .ok (.d (.bl false)) S2 := ev_cmp (ev_var rfl) (ev_op ev_lit ev_lit pow10) (by show some (decide (1000000000000000000 ≤ c)) = _; rw [decide_eq_false hbig])
          refine ⟨acc, ha, (ev_if_f k).trans ?_⟩
          have e : S2.set r (.lst [.lst (cells.map .int), .int (p + 1), .int acc, .int sd, .int cnt]) = S2 := by
            refine List.ext_getElem? fun i => ?_
            by_cases hi : r = i
            · subst hi; rw [List.getElem?_set_self hlt2, hr2]
            · rw [List.getElem?_set_ne hi]
          rw [e]
          rfl
      obtain ⟨acc', ha', s4⟩ := s4
      have hr3 : ((S2.set r (.lst [.lst (cells.map .int), .int (p + 1), .int acc', .int sd, .int cnt]) : Sto) : List Cell)[r]? = some (.lst [.lst (cells.map .int), .int (p + 1), .int acc', .int sd, .int cnt]) := List.getElem?_set_self hlt2
      obtain ⟨d, hd', t1, t2, t3, t4⟩ := draw_tail (V := V) (o2 := none) (o3 := some (.d (.int c))) (o4 := none) hr3 (by omega) ha' hm hm2
      refine ⟨d, hd', t1, t2, t3, ?_⟩
      have e : (S2.set r (.lst [.lst (cells.map .int), .int (p + 1), .int acc', .int sd, .int cnt])).set r (.lst hd') = St.set r (.lst hd') := by
        rw [hS2, hS1, List.set_set, List.set_set, List.set_set]
      rw [e] at t4
      have s2 : evS V (.sub (.var 0) (.lit (.int 1)) (.op .add (.idx (.var 0) (.lit (.int 1))) (.lit (.int 1)))) [some (.ref r), some (.d (.int many)), none, some (.d (.int c)), none] St = .nx [some (.ref r), some (.d (.int many)), none, some (.d (.int c)), none] S1 := by rw [hS1]; exact s2
      have s3' : evS V (.sub (.var 0) (.lit (.int 3)) (.op .mod (.bi .int (.cons (.op .add (.op .add (.op .mul (.idx (.var 0) (.lit (.int 3))) (.lit (.int 69621))) (.op .mul (.var 3) (.lit (.int 40692)))) (.lit (.int q))) .nil)) (.lit (.int 2147483629)))) [some (.ref r), some (.d (.int many)), none, some (.d (.int c)), none] S1 = .nx [some (.ref r), some (.d (.int many)), none, some (.d (.int c)), none] S2 := by rw [hS2]; exact s3
      exact (evSs_cons ((ev_if_t (ev_and_t c1 c2)).trans ((evSs_cons s1).trans ((evSs_cons s2).trans ((evSs_cons s3').trans ((evSs_cons s4).trans rfl)))))).trans t4
    · have c2 : evE V (.cmp .lt (.idx (.var 0) (.lit (.int 1))) (.bi .len (.cons (.idx (.var 0) (.lit (.int 0))) .nil))) [some (.ref r), some (.d (.int many)), none, none, none] St = .ok (.d (.bl false)) St :=
        ev_cmp (rd 1 _ rfl hr rfl (by decide) rfl) (ev_bi1 (rd 0 _ rfl hr rfl (by decide) rfl) (z := .int (cells.length : Nat)) (by show some (D.int ((cells.map D.int).length : Nat)) = _; rw [List.length_map])) (by show some (decide (p < (cells.length : Nat))) = _; rw [decide_eq_false hlen])
      obtain ⟨d, hd', t1, t2, t3, t4⟩ := draw_tail (V := V) (o2 := none) (o3 := none) (o4 := none) hr hp ha hm hm2
      exact ⟨d, hd', t1, t2, t3, (evSs_cons ((ev_if_f (ev_and_t c1 c2)).trans rfl)).trans t4⟩
  · have c1 : evE V (.cmp .eq (.idx (.var 0) (.lit (.int 2))) (.lit (.int 0))) [some (.ref r), some (.d (.int many)), none, none, none] St = .ok (.d (.bl false)) St := ev_cmp (rd 2 _ rfl hr rfl (by decide) rfl) ev_lit (by show some (acc == 0) = _; rw [beq_eq_false_iff_ne.mpr hz])
    obtain ⟨d, hd', t1, t2, t3, t4⟩ := draw_tail (V := V) (o2 := none) (o3 := none) (o4 := none) hr hp ha hm hm2
    exact ⟨d, hd', t1, t2, t3, (evSs_cons ((ev_if_f (ev_and_f c1)).trans rfl)).trans t4⟩
end EV
end

section
set_option Elab.async false
set_option linter.all false
set_option maxRecDepth 100000
set_option maxHeartbeats 4000000
/-! EVS: more of the evaluator's constructs, one by one -/
namespace EV
open PySem
theorem ev_ife_t {V : Env} {c a b : LE} {l : Loc} {S : Sto} (h : evE V c l S = .ok (.d (.bl true)) S) : evE V (.ife c a b) l S = evE V a l S := by simp only [evE, h, R.bind_ok, asBool, R.opt_some, if_true]
theorem ev_ife_f {V : Env} {c a b : LE} {l : Loc} {S : Sto} (h : evE V c l S = .ok (.d (.bl false)) S) : evE V (.ife c a b) l S = evE V b l S := by simp only [evE, h, R.bind_ok, asBool, R.opt_some]; rfl
theorem ev_sub {V : Env} {e : LE} {i j n m : Nat} {k : Int} {l : Loc} {S : Sto} {x : D} {ds : List D} (he : evE V e l S = .ok (.d x) S) (h1 : l[i]? = some (some (.ref n))) (h2 : l[j]? = some (some (.d (.int k)))) (hn : (S : List Cell)[n]? = some (.lst ds)) (hk : ixI ds.length k = some m) :
    evS V (.sub (.var i) (.var j) e) l S = .nx l (S.set n (.lst (ds.set m x))) := by
  simp only [evS, he, R.st_ok]
  simp only [evE, h1, h2, R.st_ok, take, RS.opt_some, subC, hn, hk]
/-- best[end] = .. -/
theorem run_d {V : Env} {F : Fn} {vs : List Vl} {S S' : Sto} {x : D} (h0 : vs.length = F.np) (h : evSs V F.body (vs.map some ++ List.replicate (F.nl - F.np) none) S = .ret (.d x) S') (h1 : S'.take S.length = S) : runF V F vs S = .ok (.d x) S := by
  unfold runF
  rw [if_pos h0, h]
  simp only [keepS, h1]
theorem ev_append {V : Env} {i : Nat} {e : LE} {l : Loc} {S : Sto} {n : Nat} {ds : List D} {x : D} (hi : l[i]? = some (some (.ref n))) (hS : (S : List Cell)[n]? = some (.lst ds)) (he : evE V e l S = .ok (.d x) S) (hl : ds.length < lim) :
    evS V (.ex (.mt .append (.var i) (.cons e .nil))) l S = .nx l (S.set n (.lst (ds ++ [x]))) := by
  have ty : isTy (mtTyp .append) (.ref n) S = some true := by
    simp [isTy, mtTyp, hS]
  simp only [evS, evE, evEs, hi, R.bind_ok, ty, if_true, he, mtV, mtApp, take, R.opt_some, hS, if_pos hl, R.st_ok]
theorem run_ret {V : Env} {F : Fn} {vs : List Vl} {S S' : Sto} {x : D} (h0 : vs.length = F.np) (h : evSs V F.body (vs.map some ++ List.replicate (F.nl - F.np) none) S = .ret (.d x) S') : runF V F vs S = .ok (.d x) (S'.take S.length) := by
  unfold runF
  rw [if_pos h0, h]
  rfl
theorem ev_callv {V : Env} {l : Loc} {S : Sto} {fl : Nat} {cs : List Vl} (h : l[0]? = some (some (.clo fl cs))) : evE V (.callv 0 .nil) l S = V.cf fl cs S := by
  simp only [evE, h, evEs, R.bind_ok, List.all_nil, if_true, List.append_nil]
theorem run_lamD {V : Env} {F : Fn} {vs : List Vl} {S : Sto} {e : LE} {x : D} (h0 : vs.length = F.np) (hb : F.body = .cons (.ret e) .nil) (h : evE V e (vs.map some ++ List.replicate (F.nl - F.np) none) S = .ok (.d x) S) : runF V F vs S = .ok (.d x) S := by
  refine run_d h0 (S' := S) ?_ (by simp)
  rw [hb]
  exact evSs_ret (ev_ret h)
theorem run_lamX {V : Env} {F : Fn} {vs : List Vl} {S : Sto} {e : LE} {k : Nat} (h0 : vs.length = F.np) (hb : F.body = .cons (.ret e) .nil) (h : evE V e (vs.map some ++ List.replicate (F.nl - F.np) none) S = .exc k [] S) : runF V F vs S = .exc k [] S := by
  unfold runF
  rw [if_pos h0, hb]
  simp only [evSs, evS, h, R.st_exc]
  simp
theorem ev_call2 {V : Env} {f : Nat} {x : String} {a b : LE} {l : Loc} {S : Sto} {u v : Vl} (h1 : evE V a l S = .ok u S) (h2 : evE V b l S = .ok v S) : evE V (.call f x (.cons a (.cons b .nil))) l S = V.cf f [u, v] S := by
  simp only [evE, evEs, h1, h2, R.bind_ok]
theorem ev_call1 {V : Env} {f : Nat} {x : String} {a : LE} {l : Loc} {S S1 : Sto} {u : Vl} (h1 : evE V a l S = .ok u S1) : evE V (.call f x (.cons a .nil)) l S = V.cf f [u] S1 := by
  simp only [evE, evEs, h1, R.bind_ok]
theorem ev_tup2 {V : Env} {a b : LE} {l : Loc} {S S1 S2 : Sto} {x y : D} (h1 : evE V a l S = .ok (.d x) S1) (h2 : evE V b l S1 = .ok (.d y) S2) : evE V (.tup (.cons a (.cons b .nil))) l S = .ok (.d (.tup [x, y])) S2 := by
  simp only [evE, evEs, h1, h2, R.bind_ok, takes, take, R.opt_some]
theorem ev_lst2 {V : Env} {a b : LE} {l : Loc} {S S1 S2 : Sto} {x y : D} (h1 : evE V a l S = .ok (.d x) S1) (h2 : evE V b l S1 = .ok (.d y) S2) : evE V (.lst (.cons a (.cons b .nil))) l S = .ok (.d (.lst [x, y])) S2 := by
  simp only [evE, evEs, h1, h2, R.bind_ok, takes, take, R.opt_some]
/-! ### words drawn -/
theorem ev_append2 {V : Env} {i : Nat} {e : LE} {l : Loc} {S S1 : Sto} {n : Nat} {ds0 ds : List D} {x : D} (hi : l[i]? = some (some (.ref n))) (hS : (S : List Cell)[n]? = some (.lst ds0)) (he : evE V e l S = .ok (.d x) S1) (hS1 : (S1 : List Cell)[n]? = some (.lst ds)) (hl : ds.length < lim) :
    evS V (.ex (.mt .append (.var i) (.cons e .nil))) l S = .nx l (S1.set n (.lst (ds ++ [x]))) := by
  have ty : isTy (mtTyp .append) (.ref n) S = some true := by
    simp [isTy, mtTyp, hS]
  simp only [evS, evE, evEs, hi, R.bind_ok, ty, if_true, he, mtV, mtApp, take, R.opt_some, hS1, if_pos hl, R.st_ok]
theorem ev_retk {V : Env} {e : LE} {l : Loc} {S S1 : Sto} {v : Vl} (h : evE V e l S = .ok v S1) : evS V (.retk e) l S = .ret v S1 := by simp only [evS, h, R.st_ok]
theorem evEs_nil {V : Env} {l : Loc} {S : Sto} : evEs V .nil l S = .ok [] S := by simp only [evEs]
theorem evEs_cons {V : Env} {e : LE} {es : LEs} {l : Loc} {S S1 S2 : Sto} {v : Vl} {vs : List Vl} (h1 : evE V e l S = .ok v S1) (h2 : evEs V es l S1 = .ok vs S2) : evEs V (.cons e es) l S = .ok (v :: vs) S2 := by
  simp only [evEs, h1, h2, R.bind_ok]
theorem takes_d (ds : List D) (S : Sto) : takes S (ds.map .d) = some (ds, S) := by
  induction ds with
  | nil => rfl
  | cons d ds ih => simp [takes, take, ih]
theorem ev_lstN {V : Env} {es : LEs} {l : Loc} {S S1 : Sto} {ds : List D} (h : evEs V es l S = .ok (ds.map .d) S1) : evE V (.lst es) l S = .ok (.d (.lst ds)) S1 := by
  simp only [evE, h, R.bind_ok, takes_d, R.opt_some]
theorem ev_tupN {V : Env} {es : LEs} {l : Loc} {S S1 : Sto} {ds : List D} (h : evEs V es l S = .ok (ds.map .d) S1) : evE V (.tup es) l S = .ok (.d (.tup ds)) S1 := by
  simp only [evE, h, R.bind_ok, takes_d, R.opt_some]
theorem ev_biN {V : Env} {b : Bi} {es : LEs} {l : Loc} {S S1 : Sto} {ds : List D} {z : D} (h : evEs V es l S = .ok (ds.map .d) S1) (hz : biD b ds = some z) : evE V (.bi b es) l S = .ok (.d z) S1 := by
  have pk : peeks S1 (ds.map .d) = some ds := by
    clear h hz
    induction ds with
    | nil => rfl
    | cons d ds ih => simp [peeks, peek, ih]
  have e : biW b (ds.map .d) S1 = some z := by
    unfold biW
    split
    · rename_i v hv
      match ds, hv with
      | [], hv => cases hv
      | [d], hv =>
        cases hv
        simp [dicOf, peeks, peek, hz]
      | _ :: _ :: _, hv => cases hv
    · rw [pk, Option.bind_some, hz]
  have e2 : biV b (ds.map .d) S1 = some z := by
    cases b <;> first
      | exact e
      | (exfalso; match ds, hz with
          | [], hz => cases hz
          | [x], hz => cases x <;> cases hz
          | _ :: _ :: _, hz => cases hz)
  simp only [evE, h, R.bind_ok, e2, R.opt_some]
theorem ev_if_g {V : Env} {c : LE} {a b : LSs} {l : Loc} {S S1 : Sto} (h : evE V c l S = .ok (.d (.bl false)) S1) : evS V (.ife c a b) l S = evSs V b l S1 := by simp only [evS, h, R.st_ok, asBool, RS.opt_some]; rfl
theorem bitsOf_map (bs : List Bool) : bitsOf (bs.map .bl) = some bs := by
  induction bs with
  | nil => rfl
  | cons b bs ih => simp [bitsOf, ih]
theorem bitsOf_fn {α : Type} (f : α → Bool) (l : List α) : bitsOf (l.map (D.bl ∘ f)) = some (l.map f) := by
  rw [← List.map_map]; exact bitsOf_map _
theorem bitsOf_fn' {α : Type} (f : α → Bool) (l : List α) : bitsOf (l.map fun x => D.bl (f x)) = some (l.map f) := bitsOf_fn f l
theorem ixI_nat {n j : Nat} (h : j < n) : ixI n (j : Int) = some j := by
  unfold ixI
  rw [if_pos (by omega), if_pos (by omega)]
  simp
end EV
end

section
set_option Elab.async false
set_option linter.all false
set_option maxRecDepth 100000
set_option maxHeartbeats 0
namespace K04
open PySem PySem.Spec PyProof.Rows EV
def tp (i : Nat) : Stmt := PySem.Challenge.pw_placesayings_k04_whole_machines_and_what.main.body.getD i (.Pass ⟨0, 0, 0, 0⟩)
def d_is_integer : Def := ⟨"is_integer", ["thing"], ["thing"], ⟨1, 1, (.cons (.ret (.and (.isi (.var 0) .int) (.not (.isi (.var 0) .bool))))
  .nil)⟩, tp 8, false⟩
def d_is_within : Def := ⟨"is_within", ["thing", "least", "most"], ["thing", "least", "most"], ⟨3, 3, (.cons (.ret (.and (.call 0 "is_integer" (.cons (.var 0) .nil)) (.chain .le .le (.var 1) (.var 0) (.var 2))))
  .nil)⟩, tp 9, false⟩
def d_is_sized : Def := ⟨"is_sized", ["thing", "least", "most"], ["thing", "least", "most"], ⟨3, 3, (.cons (.ret (.and (.isi (.var 0) .tup) (.chain .le .le (.var 1) (.bi .len (.cons (.var 0) .nil)) (.var 2))))
  .nil)⟩, tp 10, false⟩
def x_are_within_1e : LE := (.call 1 "is_within" (.cons (.var 3) (.cons (.var 1) (.cons (.var 2) .nil))))
def x_are_within_1 : LE := .comp x_are_within_1e (.val (.var 0)) (.nm 3) .no [3]
def d_are_within : Def := ⟨"are_within", ["thing", "least", "most"], ["thing", "least", "most", "one"], ⟨3, 4, (.cons (.ret (.and (.isi (.var 0) .tup) (.bi .all (.cons x_are_within_1 .nil))))
  .nil)⟩, tp 11, false⟩
def x_is_rising_1e : LE := (.cmp .lt (.var 1) (.var 2))
def x_is_rising_1 : LE := .comp x_is_rising_1e (.zip (.var 0) (.slc (.var 0) (.yes (.lit (.int 1))) .no)) (.tp (.nm 1) (.nm 2)) .no [1, 2]
def d_is_rising : Def := ⟨"is_rising", ["thing"], ["thing", "one", "other"], ⟨1, 3, (.cons (.ret (.bi .all (.cons x_is_rising_1 .nil)))
  .nil)⟩, tp 12, false⟩
def d_is_lot : Def := ⟨"is_lot", ["thing", "many"], ["thing", "many"], ⟨2, 2, (.cons (.ret (.and (.call 3 "are_within" (.cons (.var 0) (.cons (.lit (.int 0)) (.cons (.op .sub (.var 1) (.lit (.int 1))) .nil)))) (.call 4 "is_rising" (.cons (.var 0) .nil))))
  .nil)⟩, tp 13, false⟩
def d_check_size : Def := ⟨"check_size", ["size", "most"], ["size", "most"], ⟨2, 2, (.cons (.ife (.not (.call 1 "is_within" (.cons (.var 0) (.cons (.lit (.int 0)) (.cons (.var 1) .nil))))) (.cons (.raise 1 "NoSize" .nil)
  .nil) .nil)
  .nil)⟩, tp 14, false⟩
def f_power_of_1 : LSs := (.cons (.asg (.nm 2) (.op .mul (.var 2) (.var 0)))
  .nil)
def d_power_of : Def := ⟨"power_of", ["number", "times"], ["number", "times", "found", "turn"], ⟨2, 4, (.cons (.asg (.nm 2) (.lit (.int 1)))
  (.cons (.for_ (.nm 3) (.rng1 (.var 1)) f_power_of_1)
  (.cons (.ret (.var 2))
  .nil)))⟩, tp 15, false⟩
def d_symbols_of : Def := ⟨"symbols_of", ["many"], ["many"], ⟨1, 1, (.cons (.ret (.op .mul (.lit (.int 2)) (.call 7 "power_of" (.cons (.lit (.int 2)) (.cons (.var 0) .nil)))))
  .nil)⟩, tp 17, false⟩
def x_raw_is_row_1e : LE := (.call 1 "is_within" (.cons (.var 3) (.cons (.lit (.int 0)) (.cons (.op .sub (.call 8 "symbols_of" (.cons (.var 0) .nil)) (.lit (.int 1))) .nil))))
def x_raw_is_row_1 : LE := .comp x_raw_is_row_1e (.val (.var 1)) (.nm 3) .no [3]
def d_raw_is_row : Def := ⟨"raw_is_row", ["many", "thing", "most"], ["many", "thing", "most", "one"], ⟨3, 4, (.cons (.ret (.and (.call 2 "is_sized" (.cons (.var 1) (.cons (.lit (.int 0)) (.cons (.var 2) .nil)))) (.bi .all (.cons x_raw_is_row_1 .nil))))
  .nil)⟩, tp 18, false⟩
def x_are_steps_1e : LE := (.call 1 "is_within" (.cons (.var 4) (.cons (.lit (.int 0)) (.cons (.op .sub (.bi .len (.cons (.var 1) .nil)) (.lit (.int 1))) .nil))))
def x_are_steps_1 : LE := .comp x_are_steps_1e (.val (.var 3)) (.nm 4) .no [4]
def f_are_steps_2 : LSs := (.cons (.ife (.or (.not (.call 2 "is_sized" (.cons (.var 3) (.cons (.var 2) (.cons (.var 2) .nil))))) (.not (.bi .all (.cons x_are_steps_1 .nil)))) (.cons (.ret (.lit (.bl false)))
  .nil) .nil)
  .nil)
def d_are_steps : Def := ⟨"are_steps", ["tracks", "steps"], ["tracks", "steps", "many", "row", "one"], ⟨2, 5, (.cons (.ife (.not (.call 2 "is_sized" (.cons (.var 1) (.cons (.lit (.int 1)) (.cons (.glob "MOST_STATES" (.d (.int 200))) .nil))))) (.cons (.ret (.lit (.bl false)))
  .nil) .nil)
  (.cons (.asg (.nm 2) (.call 8 "symbols_of" (.cons (.var 0) .nil)))
  (.cons (.for_ (.nm 3) (.val (.var 1)) f_are_steps_2)
  (.cons (.ret (.lit (.bl true)))
  .nil))))⟩, tp 26, false⟩
def d_is_machine : Def := ⟨"is_machine", ["thing"], ["thing"], ⟨1, 1, (.cons (.ife (.or (.not (.call 2 "is_sized" (.cons (.var 0) (.cons (.lit (.int 3)) (.cons (.lit (.int 3)) .nil))))) (.not (.call 1 "is_within" (.cons (.idx (.var 0) (.lit (.int 0))) (.cons (.lit (.int 0)) (.cons (.glob "MOST_TRACKS" (.d (.int 4))) .nil)))))) (.cons (.ret (.lit (.bl false)))
  .nil) .nil)
  (.cons (.ret (.and (.call 10 "are_steps" (.cons (.idx (.var 0) (.lit (.int 0))) (.cons (.idx (.var 0) (.lit (.int 1))) .nil))) (.call 5 "is_lot" (.cons (.idx (.var 0) (.lit (.int 2))) (.cons (.bi .len (.cons (.idx (.var 0) (.lit (.int 1))) .nil)) .nil)))))
  .nil))⟩, tp 27, false⟩
def d_check_machine : Def := ⟨"check_machine", ["machine"], ["machine"], ⟨1, 1, (.cons (.ife (.not (.call 11 "is_machine" (.cons (.var 0) .nil))) (.cons (.raise 3 "NoMachine" .nil)
  .nil) .nil)
  .nil)⟩, tp 28, false⟩
def f_raw_after_1 : LSs := (.cons (.asg (.nm 2) (.idx (.idx (.idx (.var 0) (.lit (.int 1))) (.var 2)) (.var 3)))
  .nil)
def d_raw_after : Def := ⟨"raw_after", ["machine", "row"], ["machine", "row", "state", "symbol"], ⟨2, 4, (.cons (.asg (.nm 2) (.lit (.int 0)))
  (.cons (.for_ (.nm 3) (.val (.var 1)) f_raw_after_1)
  (.cons (.ret (.var 2))
  .nil)))⟩, tp 29, false⟩
def d_check_read : Def := ⟨"check_read", ["machine", "row"], ["machine", "row"], ⟨2, 2, (.cons (.ex (.call 12 "check_machine" (.cons (.var 0) .nil)))
  (.cons (.ife (.not (.call 9 "raw_is_row" (.cons (.idx (.var 0) (.lit (.int 0))) (.cons (.var 1) (.cons (.glob "MOST_ROW" (.d (.int 40))) .nil))))) (.cons (.raise 2 "NoRow" .nil)
  .nil) .nil)
  .nil))⟩, tp 30, false⟩
def d_state_after : Def := ⟨"state_after", ["machine", "row"], ["machine", "row"], ⟨2, 2, (.cons (.ex (.call 14 "check_read" (.cons (.var 0) (.cons (.var 1) .nil))))
  (.cons (.ret (.call 13 "raw_after" (.cons (.var 0) (.cons (.var 1) .nil))))
  .nil))⟩, tp 31, false⟩
def d_raw_takes : Def := ⟨"raw_takes", ["machine", "row"], ["machine", "row"], ⟨2, 2, (.cons (.ret (.cmp .isin (.call 13 "raw_after" (.cons (.var 0) (.cons (.var 1) .nil))) (.idx (.var 0) (.lit (.int 2)))))
  .nil)⟩, tp 32, false⟩
def d_takes : Def := ⟨"takes", ["machine", "row"], ["machine", "row"], ⟨2, 2, (.cons (.ex (.call 14 "check_read" (.cons (.var 0) (.cons (.var 1) .nil))))
  (.cons (.ret (.call 16 "raw_takes" (.cons (.var 0) (.cons (.var 1) .nil))))
  .nil))⟩, tp 33, false⟩
def f_raw_ways_1 : LSs := (.cons (.ife (.cmp .notin (.var 6) (.var 1)) (.cons (.sub (.var 1) (.var 6) (.op .add (.idx (.var 1) (.var 4)) (.tup (.cons (.var 5) .nil))))
  (.cons (.ex (.mt .append (.var 2) (.cons (.var 6) .nil)))
  .nil)) .nil)
  .nil)
def c_raw_ways_2 : LE := (.cmp .lt (.var 3) (.bi .len (.cons (.var 2) .nil)))
def w_raw_ways_3 : LSs := (.cons (.asg (.nm 4) (.idx (.var 2) (.var 3)))
  (.cons (.for_ (.tp (.nm 5) (.nm 6)) (.enm (.idx (.idx (.var 0) (.lit (.int 1))) (.var 4))) f_raw_ways_1)
  (.cons (.asg (.nm 3) (.op .add (.var 3) (.lit (.int 1))))
  .nil)))
def d_raw_ways : Def := ⟨"raw_ways", ["machine"], ["machine", "found", "order", "at", "state", "symbol", "there"], ⟨1, 7, (.cons (.par3 1 2 3 (.dct (.cons (.lit (.int 0)) (.cons (.tup .nil) .nil))) (.thaw (.lst (.cons (.lit (.int 0)) .nil))) (.lit (.int 0)))
  (.cons (.while_ c_raw_ways_2 w_raw_ways_3)
  (.cons (.retk (.var 1))
  .nil)))⟩, tp 34, false⟩
def d_raw_reached : Def := ⟨"raw_reached", ["machine"], ["machine"], ⟨1, 1, (.cons (.ret (.bi .tup (.cons (.bi .sorted (.cons (.call 18 "raw_ways" (.cons (.var 0) .nil)) .nil)) .nil)))
  .nil)⟩, tp 35, false⟩
def d_reached : Def := ⟨"reached", ["machine"], ["machine"], ⟨1, 1, (.cons (.ex (.call 12 "check_machine" (.cons (.var 0) .nil)))
  (.cons (.ret (.call 19 "raw_reached" (.cons (.var 0) .nil)))
  .nil))⟩, tp 36, false⟩
def x_least_accepted_1e : LE := (.tup (.cons (.bi .len (.cons (.var 4) .nil)) (.cons (.var 4) .nil)))
def x_least_accepted_1 : LE := .comp x_least_accepted_1e (.val (.var 2)) (.nm 4) .no [4]
def x_least_accepted_2e : LE := (.idx (.var 1) (.var 3))
def x_least_accepted_2 : LE := .comp x_least_accepted_2e (.val (.var 1)) (.nm 3) (.yes (.cmp .isin (.var 3) (.idx (.var 0) (.lit (.int 2))))) [3]
def d_least_accepted : Def := ⟨"least_accepted", ["machine"], ["machine", "ways", "some", "state", "row"], ⟨1, 5, (.cons (.asg (.nm 1) (.call 18 "raw_ways" (.cons (.var 0) .nil)))
  (.cons (.asg (.nm 2) x_least_accepted_2)
  (.cons (.ret (.ife (.cmp .gt (.bi .len (.cons (.var 2) .nil)) (.lit (.int 0))) (.idx (.bi .min (.cons x_least_accepted_1 .nil)) (.lit (.int 1))) (.lit (.non))))
  .nil)))⟩, tp 37, false⟩
def d_least_row : Def := ⟨"least_row", ["machine"], ["machine"], ⟨1, 1, (.cons (.ex (.call 12 "check_machine" (.cons (.var 0) .nil)))
  (.cons (.ret (.call 21 "least_accepted" (.cons (.var 0) .nil)))
  .nil))⟩, tp 38, false⟩
def x_raw_turned_1e : LE := (.var 4)
def x_raw_turned_1 : LE := .comp x_raw_turned_1e (.rng1 (.bi .len (.cons (.var 2) .nil))) (.nm 4) (.yes (.cmp .notin (.var 4) (.var 3))) [4]
def d_raw_turned : Def := ⟨"raw_turned", ["machine"], ["machine", "tracks", "steps", "ends", "state"], ⟨1, 5, (.cons (.asg (.tp3 (.nm 1) (.nm 2) (.nm 3)) (.var 0))
  (.cons (.ret (.tup (.cons (.var 1) (.cons (.var 2) (.cons (.bi .tup (.cons x_raw_turned_1 .nil)) .nil)))))
  .nil))⟩, tp 39, false⟩
def d_turned_machine : Def := ⟨"turned_machine", ["machine"], ["machine"], ⟨1, 1, (.cons (.ex (.call 12 "check_machine" (.cons (.var 0) .nil)))
  (.cons (.ret (.call 23 "raw_turned" (.cons (.var 0) .nil)))
  .nil))⟩, tp 40, false⟩
def d_is_end : Def := ⟨"is_end", ["kind", "first", "last"], ["kind", "first", "last"], ⟨3, 3, (.cons (.ife (.cmp .eq (.var 0) (.glob "BOTH" (.d (.str [98, 111, 116, 104])))) (.cons (.ret (.and (.var 1) (.var 2)))
  .nil) .nil)
  (.cons (.ret (.ife (.cmp .eq (.var 0) (.glob "EITHER" (.d (.str [101, 105, 116, 104, 101, 114])))) (.or (.var 1) (.var 2)) (.cmp .ne (.var 1) (.var 2))))
  .nil))⟩, tp 41, false⟩
def f_numbered_1 : LSs := (.cons (.ife (.cmp .notin (.var 8) (.var 4)) (.cons (.sub (.var 4) (.var 8) (.bi .len (.cons (.var 3) .nil)))
  (.cons (.ex (.mt .append (.var 3) (.cons (.var 8) .nil)))
  .nil)) .nil)
  (.cons (.ex (.mt .append (.var 7) (.cons (.idx (.var 4) (.var 8)) .nil)))
  .nil))
def c_numbered_2 : LE := (.cmp .lt (.var 6) (.bi .len (.cons (.var 3) .nil)))
def w_numbered_3 : LSs := (.cons (.asg (.nm 7) (.thaw (.lst .nil)))
  (.cons (.for_ (.nm 8) (.val (.callv 1 (.cons (.idx (.var 3) (.var 6)) .nil))) f_numbered_1)
  (.cons (.ife (.cmp .gt (.bi .len (.cons (.var 3) .nil)) (.var 2)) (.cons .never
  .nil) .nil)
  (.cons (.ex (.mt .append (.var 5) (.cons (.bi .tup (.cons (.var 7) .nil)) .nil)))
  (.cons (.asg (.nm 6) (.op .add (.var 6) (.lit (.int 1))))
  .nil)))))
def d_numbered : Def := ⟨"numbered", ["first", "steps_from", "most"], ["first", "steps_from", "most", "order", "number", "rows", "at", "row", "there"], ⟨3, 9, (.cons (.parN [3, 4, 5, 6] (.cons (.thaw (.lst (.cons (.var 0) .nil))) (.cons (.dct (.cons (.var 0) (.cons (.lit (.int 0)) .nil))) (.cons (.thaw (.lst .nil)) (.cons (.lit (.int 0)) .nil)))))
  (.cons (.while_ c_numbered_2 w_numbered_3)
  (.cons (.ret (.tup (.cons (.var 3) (.cons (.var 5) .nil))))
  .nil)))⟩, tp 42, false⟩
def d_pairs_from : Def := ⟨"pairs_from", ["one", "other", "pair"], ["one", "other", "pair"], ⟨3, 3, (.cons (.ret (.lzip (.idx (.idx (.var 0) (.lit (.int 1))) (.idx (.var 2) (.lit (.int 0)))) (.idx (.idx (.var 1) (.lit (.int 1))) (.idx (.var 2) (.lit (.int 1))))))
  .nil)⟩, tp 43, false⟩
def f_big_product_1 : LSs := (.cons (.ife (.call 25 "is_end" (.cons (.var 2) (.cons (.cmp .isin (.var 8) (.idx (.var 0) (.lit (.int 2)))) (.cons (.cmp .isin (.var 9) (.idx (.var 1) (.lit (.int 2)))) .nil)))) (.cons (.ex (.mt .append (.var 4) (.cons (.var 7) .nil)))
  .nil) .nil)
  .nil)
def d_big_product : Def := ⟨"big_product", ["one", "other", "kind", "most"], ["one", "other", "kind", "most", "ends", "order", "rows", "at", "first", "last"], ⟨4, 10, (.cons (.asg (.tp (.nm 5) (.nm 6)) (.call 26 "numbered" (.cons (.tup (.cons (.lit (.int 0)) (.cons (.lit (.int 0)) .nil))) (.cons (.lam 53 [0, 1]) (.cons (.var 3) .nil)))))
  (.cons (.asg (.nm 4) (.thaw (.lst .nil)))
  (.cons (.for_ (.tp (.nm 7) (.tp (.nm 8) (.nm 9))) (.enm (.var 5)) f_big_product_1)
  (.cons (.ret (.tup (.cons (.idx (.var 0) (.lit (.int 0))) (.cons (.bi .tup (.cons (.var 6) .nil)) (.cons (.bi .tup (.cons (.var 4) .nil)) .nil)))))
  .nil))))⟩, tp 44, true⟩
def d_product : Def := ⟨"product", ["one", "other", "kind"], ["one", "other", "kind"], ⟨3, 3, (.cons (.ret (.call 28 "big_product" (.cons (.var 0) (.cons (.var 1) (.cons (.var 2) (.cons (.glob "MOST_STATES" (.d (.int 200))) .nil))))))
  .nil)⟩, tp 45, false⟩
def d_check_pair : Def := ⟨"check_pair", ["one", "other"], ["one", "other"], ⟨2, 2, (.cons (.ex (.call 12 "check_machine" (.cons (.var 0) .nil)))
  (.cons (.ex (.call 12 "check_machine" (.cons (.var 1) .nil)))
  (.cons (.ife (.cmp .ne (.idx (.var 0) (.lit (.int 0))) (.idx (.var 1) (.lit (.int 0)))) (.cons (.raise 4 "NoPair" .nil)
  .nil) .nil)
  .nil)))⟩, tp 46, false⟩
def d_both : Def := ⟨"both", ["one", "other"], ["one", "other"], ⟨2, 2, (.cons (.ex (.call 30 "check_pair" (.cons (.var 0) (.cons (.var 1) .nil))))
  (.cons (.ret (.call 29 "product" (.cons (.var 0) (.cons (.var 1) (.cons (.glob "BOTH" (.d (.str [98, 111, 116, 104]))) .nil)))))
  .nil))⟩, tp 47, false⟩
def d_either : Def := ⟨"either", ["one", "other"], ["one", "other"], ⟨2, 2, (.cons (.ex (.call 30 "check_pair" (.cons (.var 0) (.cons (.var 1) .nil))))
  (.cons (.ret (.call 29 "product" (.cons (.var 0) (.cons (.var 1) (.cons (.glob "EITHER" (.d (.str [101, 105, 116, 104, 101, 114]))) .nil)))))
  .nil))⟩, tp 48, false⟩
def d_just_one : Def := ⟨"just_one", ["one", "other"], ["one", "other"], ⟨2, 2, (.cons (.ex (.call 30 "check_pair" (.cons (.var 0) (.cons (.var 1) .nil))))
  (.cons (.ret (.call 29 "product" (.cons (.var 0) (.cons (.var 1) (.cons (.glob "ONE" (.d (.str [111, 110, 101]))) .nil)))))
  .nil))⟩, tp 49, false⟩
def d_takes_none : Def := ⟨"takes_none", ["machine"], ["machine"], ⟨1, 1, (.cons (.ex (.call 12 "check_machine" (.cons (.var 0) .nil)))
  (.cons (.ret (.cmp .is (.call 21 "least_accepted" (.cons (.var 0) .nil)) (.lit (.non))))
  .nil))⟩, tp 50, false⟩
def d_takes_all : Def := ⟨"takes_all", ["machine"], ["machine"], ⟨1, 1, (.cons (.ex (.call 12 "check_machine" (.cons (.var 0) .nil)))
  (.cons (.ret (.cmp .is (.call 21 "least_accepted" (.cons (.call 23 "raw_turned" (.cons (.var 0) .nil)) .nil)) (.lit (.non))))
  .nil))⟩, tp 51, false⟩
def x_raw_counts_1e : LE := (.idx (.var 2) (.var 6))
def x_raw_counts_1 : LE := .comp x_raw_counts_1e (.val (.var 5)) (.nm 6) .no [6]
def x_raw_counts_2e : LE := (.bi .sum (.cons x_raw_counts_1 .nil))
def x_raw_counts_2 : LE := .comp x_raw_counts_2e (.val (.idx (.var 0) (.lit (.int 1)))) (.nm 5) .no [5]
def f_raw_counts_3 : LSs := (.cons (.asg (.nm 2) x_raw_counts_2)
  .nil)
def x_raw_counts_4e : LE := (.bi .int (.cons (.cmp .isin (.var 4) (.idx (.var 0) (.lit (.int 2)))) .nil))
def x_raw_counts_4 : LE := .comp x_raw_counts_4e (.rng1 (.bi .len (.cons (.idx (.var 0) (.lit (.int 1))) .nil))) (.nm 4) .no [4]
def d_raw_counts : Def := ⟨"raw_counts", ["machine", "size"], ["machine", "size", "found", "turn", "state", "row", "there"], ⟨2, 7, (.cons (.asg (.nm 2) x_raw_counts_4)
  (.cons (.for_ (.nm 3) (.rng1 (.var 1)) f_raw_counts_3)
  (.cons (.ret (.var 2))
  .nil)))⟩, tp 52, false⟩
def d_rows_many : Def := ⟨"rows_many", ["machine", "size"], ["machine", "size"], ⟨2, 2, (.cons (.ex (.call 12 "check_machine" (.cons (.var 0) .nil)))
  (.cons (.ex (.call 6 "check_size" (.cons (.var 1) (.cons (.glob "MOST_ROW" (.d (.int 40))) .nil))))
  (.cons (.ret (.idx (.call 36 "raw_counts" (.cons (.var 0) (.cons (.var 1) .nil))) (.lit (.int 0))))
  .nil)))⟩, tp 53, false⟩
def x_law_hand_1e : LE := (.op .mod (.bi .int (.cons (.bi .abs (.cons (.bi .int (.cons (.var 2) .nil)) .nil)) .nil)) (.op .pow (.lit (.int 10)) (.lit (.int 36))))
def x_law_hand_1 : LE := .comp x_law_hand_1e (.val (.slc (.var 0) .no (.yes (.lit (.int 63))))) (.nm 2) .no [2]
def d_law_hand : Def := ⟨"_law_hand", ["script"], ["script", "cells", "cell"], ⟨1, 3, (.cons (.asg (.nm 1) x_law_hand_1)
  (.cons (.retk (.thaw (.lst (.cons (.var 1) (.cons (.lit (.int 0)) (.cons (.lit (.int 0)) (.cons (.op .add (.lit (.int 431)) (.op .mul (.lit (.int 7)) (.bi .len (.cons (.var 1) .nil)))) (.cons (.lit (.int 0)) .nil))))))))
  .nil))⟩, tp 55, false⟩
def d_law_draw : Def := ⟨"_law_draw", ["hand", "size"], ["hand", "size", "number", "cell", "digit"], ⟨2, 5, (.cons (.ife (.and (.cmp .eq (.idx (.var 0) (.lit (.int 2))) (.lit (.int 0))) (.cmp .lt (.idx (.var 0) (.lit (.int 1))) (.bi .len (.cons (.idx (.var 0) (.lit (.int 0))) .nil)))) (.cons (.asg (.nm 3) (.idx (.idx (.var 0) (.lit (.int 0))) (.idx (.var 0) (.lit (.int 1)))))
  (.cons (.sub (.var 0) (.lit (.int 1)) (.op .add (.idx (.var 0) (.lit (.int 1))) (.lit (.int 1))))
  (.cons (.sub (.var 0) (.lit (.int 3)) (.op .mod (.bi .int (.cons (.op .add (.op .add (.op .mul (.idx (.var 0) (.lit (.int 3))) (.lit (.int 69621))) (.op .mul (.var 3) (.lit (.int 40692)))) (.lit (.int 29))) .nil)) (.lit (.int 2147483629))))
  (.cons (.ife (.cmp .ge (.var 3) (.op .pow (.lit (.int 10)) (.lit (.int 18)))) (.cons (.sub (.var 0) (.lit (.int 2)) (.var 3))
  .nil) .nil)
  .nil)))) .nil)
  (.cons (.ife (.cmp .gt (.idx (.var 0) (.lit (.int 2))) (.lit (.int 0))) (.cons (.asg (.nm 4) (.op .mod (.bi .int (.cons (.idx (.var 0) (.lit (.int 2))) .nil)) (.var 1)))
  (.cons (.sub (.var 0) (.lit (.int 2)) (.op .fdiv (.idx (.var 0) (.lit (.int 2))) (.var 1)))
  (.cons (.ret (.var 4))
  .nil))) .nil)
  (.cons (.sub (.var 0) (.lit (.int 4)) (.op .add (.idx (.var 0) (.lit (.int 4))) (.lit (.int 1))))
  (.cons (.asg (.nm 2) (.op .mod (.bi .int (.cons (.op .mul (.bi .int (.cons (.op .add (.idx (.var 0) (.lit (.int 3))) (.op .mul (.lit (.int 7919)) (.idx (.var 0) (.lit (.int 4))))) .nil)) (.lit (.int 48271))) .nil)) (.lit (.int 2147483647))))
  (.cons (.asg (.nm 2) (.op .mod (.bi .int (.cons (.op .mul (.var 2) (.op .add (.op .fdiv (.var 2) (.lit (.int 1009))) (.lit (.int 69621)))) .nil)) (.lit (.int 2147483647))))
  (.cons (.asg (.nm 2) (.op .mod (.bi .int (.cons (.op .mul (.var 2) (.op .add (.op .fdiv (.var 2) (.lit (.int 2003))) (.lit (.int 40014)))) .nil)) (.lit (.int 2147483563))))
  (.cons (.ret (.op .mod (.bi .int (.cons (.op .fdiv (.var 2) (.lit (.int 16))) .nil)) (.var 1)))
  .nil)))))))⟩, tp 56, false⟩
def d_law_some : Def := ⟨"_law_some", ["hand", "things"], ["hand", "things"], ⟨2, 2, (.cons (.ret (.idx (.var 1) (.call 39 "_law_draw" (.cons (.var 0) (.cons (.bi .len (.cons (.var 1) .nil)) .nil)))))
  .nil)⟩, tp 57, false⟩
def f_law_two_1 : LSs := (.cons (.asg (.nm 1) (.op .add (.var 1) (.var 1)))
  .nil)
def d_law_two : Def := ⟨"_law_two", ["many"], ["many", "found", "lap"], ⟨1, 3, (.cons (.asg (.nm 1) (.lit (.int 1)))
  (.cons (.for_ (.nm 2) (.rng1 (.var 0)) f_law_two_1)
  (.cons (.ret (.var 1))
  .nil)))⟩, tp 58, false⟩
def x_law_machine_1e : LE := (.var 3)
def x_law_machine_1 : LE := .comp x_law_machine_1e (.rng1 (.var 5)) (.nm 3) (.yes (.cmp .eq (.call 39 "_law_draw" (.cons (.var 0) (.cons (.lit (.int 2)) .nil))) (.lit (.int 0)))) [3]
def x_law_machine_2e : LE := (.call 39 "_law_draw" (.cons (.var 0) (.cons (.var 5) .nil)))
def x_law_machine_2 : LE := .comp x_law_machine_2e (.rng1 (.op .mul (.lit (.int 2)) (.call 41 "_law_two" (.cons (.var 1) .nil)))) (.nm 7) .no [7]
def f_law_machine_3 : LSs := (.cons (.ex (.mt .append (.var 6) (.cons (.bi .tup (.cons x_law_machine_2 .nil)) .nil)))
  .nil)
def d_law_machine : Def := ⟨"_law_machine", ["hand", "tracks", "most"], ["hand", "tracks", "most", "state", "ends", "many", "steps", "symbol"], ⟨3, 8, (.cons (.parN [5, 6] (.cons (.op .add (.lit (.int 1)) (.call 39 "_law_draw" (.cons (.var 0) (.cons (.var 2) .nil)))) (.cons (.thaw (.lst .nil)) .nil)))
  (.cons (.for_ (.nm 3) (.rng1 (.var 5)) f_law_machine_3)
  (.cons (.asg (.nm 4) (.bi .tup (.cons x_law_machine_1 .nil)))
  (.cons (.ret (.tup (.cons (.var 1) (.cons (.bi .tup (.cons (.var 6) .nil)) (.cons (.var 4) .nil)))))
  .nil))))⟩, tp 59, false⟩
def f_law_after_1 : LSs := (.cons (.asg (.nm 2) (.idx (.idx (.idx (.var 0) (.lit (.int 1))) (.var 2)) (.var 3)))
  .nil)
def d_law_after : Def := ⟨"_law_after", ["machine", "row"], ["machine", "row", "state", "symbol"], ⟨2, 4, (.cons (.asg (.nm 2) (.lit (.int 0)))
  (.cons (.for_ (.nm 3) (.val (.var 1)) f_law_after_1)
  (.cons (.ret (.var 2))
  .nil)))⟩, tp 60, false⟩
def d_law_takes : Def := ⟨"_law_takes", ["machine", "row"], ["machine", "row"], ⟨2, 2, (.cons (.ret (.cmp .isin (.call 43 "_law_after" (.cons (.var 0) (.cons (.var 1) .nil))) (.idx (.var 0) (.lit (.int 2)))))
  .nil)⟩, tp 61, false⟩
def x_law_rows_1e : LE := (.op .add (.var 6) (.tup (.cons (.var 7) .nil)))
def x_law_rows_1 : LE := .comp x_law_rows_1e (.rng1 (.var 0)) (.nm 7) .no [7]
def f_law_rows_2 : LSs := (.cons (.ex (.mt .extend (.var 5) (.cons x_law_rows_1 .nil)))
  .nil)
def f_law_rows_3 : LSs := (.cons (.asg (.nm 5) (.thaw (.lst .nil)))
  (.cons (.for_ (.nm 6) (.val (.var 4)) f_law_rows_2)
  (.cons (.par 3 4 (.op .add (.var 3) (.var 5)) (.var 5))
  .nil)))
def d_law_rows : Def := ⟨"_law_rows", ["symbols", "most"], ["symbols", "most", "size", "found", "last", "later", "row", "symbol"], ⟨2, 8, (.cons (.par 3 4 (.lst (.cons (.tup .nil) .nil)) (.lst (.cons (.tup .nil) .nil)))
  (.cons (.for_ (.nm 2) (.rng1 (.var 1)) f_law_rows_3)
  (.cons (.ret (.var 3))
  .nil)))⟩, tp 62, false⟩
def f_law_come_1 : LSs := (.cons (.ife (.cmp .notin (.var 6) (.var 2)) (.cons (.sub (.var 2) (.var 6) (.op .add (.idx (.var 2) (.var 4)) (.tup (.cons (.var 5) .nil))))
  (.cons (.ex (.mt .append (.var 3) (.cons (.var 6) .nil)))
  .nil)) .nil)
  .nil)
def f_law_come_2 : LSs := (.cons (.ife (.cmp .gt (.bi .len (.cons (.var 3) .nil)) (.lit (.int 0))) (.cons (.asg (.nm 4) (.mt .pop0 (.var 3) (.cons (.lit (.int 0)) .nil)))
  (.cons (.for_ (.tp (.nm 5) (.nm 6)) (.enm (.idx (.idx (.var 0) (.lit (.int 1))) (.var 4))) f_law_come_1)
  .nil)) .nil)
  .nil)
def d_law_come : Def := ⟨"_law_come", ["machine"], ["machine", "lap", "found", "waiting", "here", "symbol", "there"], ⟨1, 7, (.cons (.par 2 3 (.dct (.cons (.lit (.int 0)) (.cons (.tup .nil) .nil))) (.thaw (.lst (.cons (.lit (.int 0)) .nil))))
  (.cons (.for_ (.nm 1) (.rng1 (.lit (.int 2000))) f_law_come_2)
  (.cons (.retk (.var 2))
  .nil)))⟩, tp 63, false⟩
def d_law_word : Def := ⟨"_law_word", ["call"], ["call", "found", "e", "flags", "names_now"], ⟨1, 5, (.cons (.asg (.nm 1) (.lit (.str [116, 111, 108, 100])))
  (.cons (.try_ (.cons (.ex (.callv 0 .nil))
  .nil) 0 "SayError" 2 (.cons (.asg (.nm 3) (.lst (.cons (.isx 2 "NoMachine" 3) (.cons (.isx 2 "NoRow" 2) (.cons (.isx 2 "NoPair" 4) (.cons (.isx 2 "NoSize" 1) .nil))))))
  (.cons (.asg (.nm 1) (.lit (.str [111, 116, 104, 101, 114])))
  (.cons (.ife (.and (.cmp .eq (.mt .lcnt (.var 3) (.cons (.lit (.bl true)) .nil)) (.lit (.int 1))) (.isx 2 "ValueError" 6)) (.cons (.asg (.nm 4) (.lst (.cons (.lit (.str [109, 97, 99, 104, 105, 110, 101])) (.cons (.lit (.str [114, 111, 119])) (.cons (.lit (.str [112, 97, 105, 114])) (.cons (.lit (.str [115, 105, 122, 101])) .nil))))))
  (.cons (.asg (.nm 1) (.idx (.var 4) (.mt .lidx (.var 3) (.cons (.lit (.bl true)) .nil))))
  .nil)) .nil)
  .nil))))
  (.cons (.ret (.var 1))
  .nil)))⟩, tp 64, false⟩
def x_law_many_1e : LE := (.idx (.var 2) (.var 5))
def x_law_many_1 : LE := .comp x_law_many_1e (.val (.var 2)) (.nm 5) (.yes (.cmp .isin (.var 5) (.idx (.var 0) (.lit (.int 2))))) [5]
def f_law_many_2 : LSs := (.cons (.sub (.var 4) (.var 6) (.op .add (.mt .get (.var 4) (.cons (.var 6) (.cons (.lit (.int 0)) .nil))) (.idx (.var 2) (.var 5))))
  .nil)
def f_law_many_3 : LSs := (.cons (.for_ (.nm 6) (.val (.idx (.idx (.var 0) (.lit (.int 1))) (.var 5))) f_law_many_2)
  .nil)
def f_law_many_4 : LSs := (.cons (.asg (.nm 4) (.dct .nil))
  (.cons (.for_ (.nm 5) (.val (.var 2)) f_law_many_3)
  (.cons (.asg (.nm 2) (.var 4))
  .nil)))
def d_law_many : Def := ⟨"_law_many", ["machine", "size"], ["machine", "size", "ways", "lap", "later", "state", "there"], ⟨2, 7, (.cons (.asg (.nm 2) (.dct (.cons (.lit (.int 0)) (.cons (.lit (.int 1)) .nil))))
  (.cons (.for_ (.nm 3) (.rng1 (.var 1)) f_law_many_4)
  (.cons (.ret (.bi .sum (.cons x_law_many_1 .nil)))
  .nil)))⟩, tp 65, false⟩
def x_law_is_one_right_1e : LE := (.cmp .ne (.call 17 "takes" (.cons (.var 6) (.cons (.var 14) .nil))) (.call 44 "_law_takes" (.cons (.var 1) (.cons (.var 14) .nil))))
def x_law_is_one_right_1 : LE := .comp x_law_is_one_right_1e (.val (.var 2)) (.nm 14) .no [14]
def x_law_is_one_right_2e : LE := (.cmp .isin (.var 12) (.idx (.var 1) (.lit (.int 2))))
def x_law_is_one_right_2 : LE := .comp x_law_is_one_right_2e (.val (.var 9)) (.nm 12) .no [12]
def x_law_is_one_right_3e : LE := (.tup (.cons (.bi .len (.cons (.var 14) .nil)) (.cons (.var 14) .nil)))
def x_law_is_one_right_3 : LE := .comp x_law_is_one_right_3e (.val (.var 4)) (.nm 14) .no [14]
def x_law_is_one_right_4e : LE := (.idx (.var 9) (.var 12))
def x_law_is_one_right_4 : LE := .comp x_law_is_one_right_4e (.val (.var 9)) (.nm 12) (.yes (.cmp .isin (.var 12) (.idx (.var 1) (.lit (.int 2))))) [12]
def x_law_is_one_right_5e : LE := (.call 39 "_law_draw" (.cons (.var 0) (.cons (.var 8) .nil)))
def x_law_is_one_right_5 : LE := .comp x_law_is_one_right_5e (.rng1 (.call 39 "_law_draw" (.cons (.var 0) (.cons (.lit (.int 12)) .nil)))) (.nm 13) .no [13]
def d_law_is_one_right : Def := ⟨"_law_is_one_right", ["hand", "machine"], ["hand", "machine", "rows", "row", "some", "due", "other", "size", "symbols", "come", "many", "whole", "state", "lap", "one"], ⟨2, 15, (.cons (.parN [8, 9] (.cons (.op .mul (.lit (.int 2)) (.call 41 "_law_two" (.cons (.idx (.var 1) (.lit (.int 0))) .nil))) (.cons (.call 46 "_law_come" (.cons (.var 1) .nil)) .nil)))
  (.cons (.asg (.nm 2) (.call 45 "_law_rows" (.cons (.var 8) (.cons (.ife (.cmp .eq (.var 8) (.lit (.int 2))) (.lit (.int 4)) (.lit (.int 2))) .nil))))
  (.cons (.ife (.or (.cmp .isnot (.call 11 "is_machine" (.cons (.var 1) .nil)) (.lit (.bl true))) (.cmp .ne (.call 20 "reached" (.cons (.var 1) .nil)) (.bi .tup (.cons (.bi .sorted (.cons (.var 9) .nil)) .nil)))) (.cons (.ret (.lit (.bl false)))
  .nil) .nil)
  (.cons (.asg (.nm 3) (.bi .tup (.cons x_law_is_one_right_5 .nil)))
  (.cons (.ife (.or (.cmp .ne (.call 15 "state_after" (.cons (.var 1) (.cons (.var 3) .nil))) (.call 43 "_law_after" (.cons (.var 1) (.cons (.var 3) .nil)))) (.cmp .ne (.call 17 "takes" (.cons (.var 1) (.cons (.var 3) .nil))) (.call 44 "_law_takes" (.cons (.var 1) (.cons (.var 3) .nil))))) (.cons (.ret (.lit (.bl false)))
  .nil) .nil)
  (.cons (.asg (.nm 4) x_law_is_one_right_4)
  (.cons (.asg (.nm 5) (.ife (.cmp .gt (.bi .len (.cons (.var 4) .nil)) (.lit (.int 0))) (.idx (.bi .min (.cons x_law_is_one_right_3 .nil)) (.lit (.int 1))) (.lit (.non))))
  (.cons (.ife (.or (.cmp .ne (.bi .repr (.cons (.call 22 "least_row" (.cons (.var 1) .nil)) .nil)) (.bi .repr (.cons (.var 5) .nil))) (.cmp .ne (.call 34 "takes_none" (.cons (.var 1) .nil)) (.cmp .is (.var 5) (.lit (.non))))) (.cons (.ret (.lit (.bl false)))
  .nil) .nil)
  (.cons (.ife (.cmp .ne (.call 35 "takes_all" (.cons (.var 1) .nil)) (.bi .all (.cons x_law_is_one_right_2 .nil))) (.cons (.ret (.lit (.bl false)))
  .nil) .nil)
  (.cons (.asg (.nm 6) (.call 24 "turned_machine" (.cons (.var 1) .nil)))
  (.cons (.ife (.not (.bi .all (.cons x_law_is_one_right_1 .nil))) (.cons (.ret (.lit (.bl false)))
  .nil) .nil)
  (.cons (.asg (.nm 7) (.call 39 "_law_draw" (.cons (.var 0) (.cons (.lit (.int 41)) .nil))))
  (.cons (.par 10 11 (.call 48 "_law_many" (.cons (.var 1) (.cons (.var 7) .nil))) (.call 41 "_law_two" (.cons (.op .mul (.var 7) (.op .add (.idx (.var 1) (.lit (.int 0))) (.lit (.int 1)))) .nil)))
  (.cons (.ret (.and (.cmp .eq (.call 37 "rows_many" (.cons (.var 1) (.cons (.var 7) .nil))) (.var 10)) (.cmp .eq (.call 37 "rows_many" (.cons (.var 6) (.cons (.var 7) .nil))) (.op .sub (.var 11) (.var 10)))))
  .nil))))))))))))))⟩, tp 66, false⟩
def x_law_are_two_right_1e : LE := (.call 37 "rows_many" (.cons (.var 11) (.cons (.var 6) .nil)))
def x_law_are_two_right_1 : LE := .comp x_law_are_two_right_1e (.val (.var 3)) (.nm 11) .no [11]
def x_law_are_two_right_2e : LE := (.call 44 "_law_takes" (.cons (.var 11) (.cons (.var 5) .nil)))
def x_law_are_two_right_2 : LE := .comp x_law_are_two_right_2e (.val (.var 3)) (.nm 11) .no [11]
def f_law_are_two_right_3 : LSs := (.cons (.par 9 10 (.call 44 "_law_takes" (.cons (.var 1) (.cons (.var 5) .nil))) (.call 44 "_law_takes" (.cons (.var 2) (.cons (.var 5) .nil))))
  (.cons (.ife (.cmp .ne x_law_are_two_right_2 (.lst (.cons (.and (.var 9) (.var 10)) (.cons (.or (.var 9) (.var 10)) (.cons (.cmp .ne (.var 9) (.var 10)) .nil))))) (.cons (.ret (.lit (.bl false)))
  .nil) .nil)
  .nil))
def d_law_are_two_right : Def := ⟨"_law_are_two_right", ["hand", "one", "other"], ["hand", "one", "other", "every", "rows", "row", "size", "many", "whole", "a", "b", "machine"], ⟨3, 12, (.cons (.asg (.nm 3) (.lst (.cons (.call 31 "both" (.cons (.var 1) (.cons (.var 2) .nil))) (.cons (.call 32 "either" (.cons (.var 1) (.cons (.var 2) .nil))) (.cons (.call 33 "just_one" (.cons (.var 1) (.cons (.var 2) .nil))) .nil)))))
  (.cons (.asg (.nm 4) (.call 45 "_law_rows" (.cons (.op .mul (.lit (.int 2)) (.call 41 "_law_two" (.cons (.idx (.var 1) (.lit (.int 0))) .nil))) (.cons (.ife (.cmp .eq (.idx (.var 1) (.lit (.int 0))) (.lit (.int 0))) (.lit (.int 6)) (.lit (.int 3))) .nil))))
  (.cons (.for_ (.nm 5) (.val (.var 4)) f_law_are_two_right_3)
  (.cons (.asg (.nm 6) (.call 39 "_law_draw" (.cons (.var 0) (.cons (.lit (.int 20)) .nil))))
  (.cons (.asg (.nm 7) x_law_are_two_right_1)
  (.cons (.asg (.nm 8) (.op .add (.call 48 "_law_many" (.cons (.var 1) (.cons (.var 6) .nil))) (.call 48 "_law_many" (.cons (.var 2) (.cons (.var 6) .nil)))))
  (.cons (.ret (.and (.cmp .eq (.op .add (.idx (.var 7) (.lit (.int 0))) (.idx (.var 7) (.lit (.int 1)))) (.var 8)) (.cmp .eq (.idx (.var 7) (.lit (.int 2))) (.op .sub (.idx (.var 7) (.lit (.int 1))) (.idx (.var 7) (.lit (.int 0)))))))
  .nil)))))))⟩, tp 67, false⟩
def d_law_are_refused : Def := ⟨"_law_are_refused", ["hand", "machine"], ["hand", "machine", "steps", "bads", "heard", "other", "bad", "odd"], ⟨2, 8, (.cons (.asg (.nm 2) (.idx (.var 1) (.lit (.int 1))))
  (.cons (.asg (.nm 3) (.lst (.cons (.lit (.non)) (.cons (.tup .nil) (.cons (.lit (.int 5)) (.cons (.slc (.var 1) .no (.yes (.lit (.int 2)))) (.cons (.tup (.cons (.lit (.int 5)) (.cons (.var 2) (.cons (.tup .nil) .nil)))) (.cons (.tup (.cons (.lit (.bl true)) (.cons (.var 2) (.cons (.tup .nil) .nil)))) (.cons (.tup (.cons (.lit (.int 0)) (.cons (.tup .nil) (.cons (.tup .nil) .nil)))) (.cons (.tup (.cons (.idx (.var 1) (.lit (.int 0))) (.cons (.bi .lst (.cons (.var 2) .nil)) (.cons (.tup .nil) .nil)))) .nil))))))))))
  (.cons (.asg (.nm 3) (.op .add (.var 3) (.lst (.cons (.tup (.cons (.idx (.var 1) (.lit (.int 0))) (.cons (.var 2) (.cons (.tup (.cons (.bi .len (.cons (.var 2) .nil)) .nil)) .nil)))) (.cons (.tup (.cons (.idx (.var 1) (.lit (.int 0))) (.cons (.tup (.cons (.tup (.cons (.lit (.int 0)) .nil)) .nil)) (.cons (.tup .nil) .nil)))) (.cons (.tup (.cons (.idx (.var 1) (.lit (.int 0))) (.cons (.var 2) (.cons (.tup (.cons (.lit (.int 0)) (.cons (.lit (.int 0)) .nil))) .nil)))) .nil))))))
  (.cons (.parN [6, 7] (.cons (.call 40 "_law_some" (.cons (.var 0) (.cons (.var 3) .nil))) (.cons (.call 40 "_law_some" (.cons (.var 0) (.cons (.lst (.cons (.lit (.non)) (.cons (.lit (.int 5)) (.cons (.lst (.cons (.lit (.int 0)) .nil)) (.cons (.tup (.cons (.lit (.int 9)) .nil)) (.cons (.tup (.cons (.neg (.lit (.int 1))) .nil)) (.cons (.tup (.cons (.lit (.bl true)) .nil)) (.cons (.op .mul (.tup (.cons (.lit (.int 0)) .nil)) (.lit (.int 41))) (.cons (.lit (.str [48])) .nil))))))))) .nil))) .nil)))
  (.cons (.ife (.cmp .isnot (.call 11 "is_machine" (.cons (.var 6) .nil)) (.lit (.bl false))) (.cons (.ret (.lit (.bl false)))
  .nil) .nil)
  (.cons (.asg (.nm 4) (.lst (.cons (.call 47 "_law_word" (.cons (.lam 62 [6]) .nil)) (.cons (.call 47 "_law_word" (.cons (.lam 61 [6, 7]) .nil)) .nil))))
  (.cons (.asg (.nm 4) (.op .add (.var 4) (.lst (.cons (.call 47 "_law_word" (.cons (.lam 60 [1, 6]) .nil)) (.cons (.call 47 "_law_word" (.cons (.lam 59 [6]) .nil)) .nil)))))
  (.cons (.ife (.cmp .ne (.op .add (.var 4) (.lst (.cons (.call 47 "_law_word" (.cons (.lam 58 [6]) .nil)) .nil))) (.op .mul (.lst (.cons (.lit (.str [109, 97, 99, 104, 105, 110, 101])) .nil)) (.lit (.int 5)))) (.cons (.ret (.lit (.bl false)))
  .nil) .nil)
  (.cons (.ife (.cmp .ne (.lst (.cons (.call 47 "_law_word" (.cons (.lam 57 [1, 7]) .nil)) (.cons (.call 47 "_law_word" (.cons (.lam 56 [1, 7]) .nil)) .nil))) (.op .mul (.lst (.cons (.lit (.str [114, 111, 119])) .nil)) (.lit (.int 2)))) (.cons (.ret (.lit (.bl false)))
  .nil) .nil)
  (.cons (.asg (.nm 5) (.tup (.cons (.op .sub (.lit (.int 1)) (.idx (.var 1) (.lit (.int 0)))) (.cons (.tup (.cons (.op .mul (.tup (.cons (.lit (.int 0)) .nil)) (.op .sub (.lit (.int 4)) (.op .mul (.lit (.int 2)) (.idx (.var 1) (.lit (.int 0)))))) .nil)) (.cons (.tup .nil) .nil)))))
  (.cons (.ife (.cmp .ne (.call 47 "_law_word" (.cons (.lam 55 [1, 5]) .nil)) (.lit (.str [112, 97, 105, 114]))) (.cons (.ret (.lit (.bl false)))
  .nil) .nil)
  (.cons (.ret (.cmp .eq (.call 47 "_law_word" (.cons (.lam 54 [1, 0]) .nil)) (.lit (.str [115, 105, 122, 101]))))
  .nil))))))))))))⟩, tp 68, true⟩
def f_law_1 : LSs := (.cons (.asg (.nm 3) (.call 39 "_law_draw" (.cons (.var 1) (.cons (.lit (.int 2)) .nil))))
  (.cons (.par 4 5 (.call 42 "_law_machine" (.cons (.var 1) (.cons (.var 3) (.cons (.lit (.int 5)) .nil)))) (.call 42 "_law_machine" (.cons (.var 1) (.cons (.var 3) (.cons (.lit (.int 4)) .nil)))))
  (.cons (.ife (.or (.not (.call 49 "_law_is_one_right" (.cons (.var 1) (.cons (.var 4) .nil)))) (.not (.call 50 "_law_are_two_right" (.cons (.var 1) (.cons (.var 4) (.cons (.var 5) .nil)))))) (.cons (.ret (.lit (.bl false)))
  .nil) .nil)
  (.cons (.ife (.not (.call 51 "_law_are_refused" (.cons (.var 1) (.cons (.var 4) .nil)))) (.cons (.ret (.lit (.bl false)))
  .nil) .nil)
  .nil))))
def d_law : Def := ⟨"law", ["script"], ["script", "hand", "lap", "tracks", "one", "other"], ⟨1, 6, (.cons (.asg (.nm 1) (.call 38 "_law_hand" (.cons (.var 0) .nil)))
  (.cons (.for_ (.nm 2) (.rng1 (.lit (.int 3))) f_law_1)
  (.cons (.ret (.lit (.bl true)))
  .nil)))⟩, tp 69, false⟩
def ds : List Def := [d_is_integer, d_is_within, d_is_sized, d_are_within, d_is_rising, d_is_lot, d_check_size, d_power_of, d_symbols_of, d_raw_is_row, d_are_steps, d_is_machine, d_check_machine, d_raw_after, d_check_read, d_state_after, d_raw_takes, d_takes, d_raw_ways, d_raw_reached, d_reached, d_least_accepted, d_least_row, d_raw_turned, d_turned_machine, d_is_end, d_numbered, d_pairs_from, d_big_product, d_product, d_check_pair, d_both, d_either, d_just_one, d_takes_none, d_takes_all, d_raw_counts, d_rows_many, d_law_hand, d_law_draw, d_law_some, d_law_two, d_law_machine, d_law_after, d_law_takes, d_law_rows, d_law_come, d_law_word, d_law_many, d_law_is_one_right, d_law_are_two_right, d_law_are_refused, d_law]
def lds : List LamD := [⟨[("pair" : Str)], 3, (.call 27 "pairs_from" (.cons (.var 0) (.cons (.var 1) (.cons (.var 2) .nil))))⟩,
 ⟨[], 2, (.call 37 "rows_many" (.cons (.var 0) (.cons (.call 40 "_law_some" (.cons (.var 1) (.cons (.lst (.cons (.neg (.lit (.int 1))) (.cons (.lit (.int 41)) (.cons (.lit (.non)) (.cons (.lit (.bl true)) (.cons (.lit (.str [51])) .nil)))))) .nil))) .nil)))⟩,
 ⟨[], 2, (.call 32 "either" (.cons (.var 0) (.cons (.var 1) .nil)))⟩,
 ⟨[], 2, (.call 15 "state_after" (.cons (.var 0) (.cons (.var 1) .nil)))⟩,
 ⟨[], 2, (.call 17 "takes" (.cons (.var 0) (.cons (.var 1) .nil)))⟩,
 ⟨[], 1, (.call 37 "rows_many" (.cons (.var 0) (.cons (.lit (.int 99)) .nil)))⟩,
 ⟨[], 1, (.call 33 "just_one" (.cons (.var 0) (.cons (.lit (.non)) .nil)))⟩,
 ⟨[], 2, (.call 31 "both" (.cons (.var 0) (.cons (.var 1) .nil)))⟩,
 ⟨[], 2, (.call 15 "state_after" (.cons (.var 0) (.cons (.var 1) .nil)))⟩,
 ⟨[], 1, (.call 20 "reached" (.cons (.var 0) .nil))⟩]
def T : LawT := { ds := ds, lds := lds, blt := ["abs", "all", "bool", "enumerate", "int", "isinstance", "len", "list", "min", "range", "repr", "sorted", "sum", "tuple", "zip"], gv := [("BOTH", .str [98, 111, 116, 104]), ("EITHER", .str [101, 105, 116, 104, 101, 114]), ("MOST_ROW", .int 40), ("MOST_STATES", .int 200), ("MOST_TRACKS", .int 4), ("ONE", .str [111, 110, 101])], own := ["SayError", "NoSize", "NoRow", "NoMachine", "NoPair", "TooMany"], bcl := ["ValueError"], rz := [0, 1, 2, 3, 4], subs := [(0, 0, true), (0, 1, false), (0, 2, false), (0, 3, false), (0, 4, false), (0, 5, false), (0, 6, true), (1, 0, true), (1, 1, true), (1, 2, false), (1, 3, false), (1, 4, false), (1, 5, false), (1, 6, true), (2, 0, true), (2, 1, false), (2, 2, true), (2, 3, false), (2, 4, false), (2, 5, false), (2, 6, true), (3, 0, true), (3, 1, false), (3, 2, false), (3, 3, true), (3, 4, false), (3, 5, false), (3, 6, true), (4, 0, true), (4, 1, false), (4, 2, false), (4, 3, false), (4, 4, true), (4, 5, false), (4, 6, true), (5, 0, true), (5, 1, false), (5, 2, false), (5, 3, false), (5, 4, false), (5, 5, true), (5, 6, true)] }
theorem ok : T.ok = true := by decide +kernel
abbrev R : PySem.W.OpenRow := PySem.W.OpenLaw.row PySem.Challenge.rw_placesayings_k04_whole_machines_and_what
abbrev hk : PySem.W.Hook := He.hookX 5 T.fas T.fns [] T.tfs T.exB
def ob (s : PySem.W.SharedT) : He.AlX := He.obsX 5 T.fas T.fns [] T.tfs T.exB (HandSHeadRun.getT s)
theorem ob_eq (s : PySem.W.SharedT) : ob s = hk.obs s.abs := He.obsX_eq (HandSHeadRun.getT_eq s)
def names : List PySem.Str := [("SayError" : PySem.Str), ("NoSize" : PySem.Str), ("NoRow" : PySem.Str), ("NoMachine" : PySem.Str), ("NoPair" : PySem.Str), ("TooMany" : PySem.Str), ("is_integer" : PySem.Str), ("is_within" : PySem.Str), ("is_sized" : PySem.Str), ("are_within" : PySem.Str), ("is_rising" : PySem.Str), ("is_lot" : PySem.Str), ("check_size" : PySem.Str), ("power_of" : PySem.Str), ("symbols_of" : PySem.Str), ("raw_is_row" : PySem.Str), ("MOST_TRACKS" : PySem.Str), ("MOST_STATES" : PySem.Str), ("MOST_ROW" : PySem.Str), ("BOTH" : PySem.Str), ("EITHER" : PySem.Str), ("ONE" : PySem.Str), ("are_steps" : PySem.Str), ("is_machine" : PySem.Str), ("check_machine" : PySem.Str), ("raw_after" : PySem.Str), ("check_read" : PySem.Str), ("state_after" : PySem.Str), ("raw_takes" : PySem.Str), ("takes" : PySem.Str), ("raw_ways" : PySem.Str), ("raw_reached" : PySem.Str), ("reached" : PySem.Str), ("least_accepted" : PySem.Str), ("least_row" : PySem.Str), ("raw_turned" : PySem.Str), ("turned_machine" : PySem.Str), ("is_end" : PySem.Str), ("numbered" : PySem.Str), ("pairs_from" : PySem.Str), ("big_product" : PySem.Str), ("product" : PySem.Str), ("check_pair" : PySem.Str), ("both" : PySem.Str), ("either" : PySem.Str), ("just_one" : PySem.Str), ("takes_none" : PySem.Str), ("takes_all" : PySem.Str), ("raw_counts" : PySem.Str), ("rows_many" : PySem.Str), ("_law_hand" : PySem.Str), ("_law_draw" : PySem.Str), ("_law_some" : PySem.Str), ("_law_two" : PySem.Str), ("_law_machine" : PySem.Str), ("_law_after" : PySem.Str), ("_law_takes" : PySem.Str), ("_law_rows" : PySem.Str), ("_law_come" : PySem.Str), ("_law_word" : PySem.Str), ("_law_many" : PySem.Str), ("_law_is_one_right" : PySem.Str), ("_law_are_two_right" : PySem.Str), ("_law_are_refused" : PySem.Str)]
theorem run (w : World) : HandSHeadRun.RunEq R (PySem.W.view R.prog [69]) hk ob 4000 names w := by
  intro os
  kernel_rfl
/-- what is left: the evaluator's answer -/
def Plain (k : Nat) : Prop := ∃ wf, ∀ ns : List Int, ns.length ≤ 63 → (∀ z ∈ ns, Builtin.Int.intBits z ≤ 1048576) → ∃ S', callN T.fs T.sub wf (k + 1) 52 [.scr (ns.map .int)] [] = .ok (.d (.bl true)) S'
end K04
open PySem PySem.W PySem.Calls PyProof.Rows
theorem k04_end (hp : K04.Plain 40) : PySem.Challenge.rw_placesayings_k04_whole_machines_and_what.Holds := by
  w_on; o_law
  refine HandSHeadRun.head_any (r := OpenLaw.row PySem.Challenge.rw_placesayings_k04_whole_machines_and_what) (q := view (OpenLaw.row PySem.Challenge.rw_placesayings_k04_whole_machines_and_what).prog [69]) (H := K04.hk) (ob := K04.ob) (M := 4000) (loose := K04.names) (d := HandSHeadRun.topDef (OpenLaw.row PySem.Challenge.rw_placesayings_k04_whole_machines_and_what).prog 69) (kwd := []) K04.ob_eq
    (by kernel_rfl) (fun s => by kernel_rfl) K04.run (by kernel_rfl) (by kernel_rfl) (by kernel_rfl) (by rfl) (by first | assumption | decide +kernel) (by decide +kernel) ⟨rfl, rfl, rfl, rfl, rfl, by decide +kernel⟩ ?hw ?hc
  case hw => w_witness2
  case hc =>
    refine EV.walk_G (l := PySem.Challenge.rw_placesayings_k04_whole_machines_and_what) (n := 63) (k := 41) (x := "script") (CX := fun w => L2.CX (PySem.Challenge.rw_placesayings_k04_whole_machines_and_what).prog w) rfl (by decide) (by kernel_rfl) ⟨⟨rfl, by decide, by decide⟩, rfl⟩ ?F (fun w H s e s' z => ?hx)
    case hx =>
      obtain ⟨_, _, _, _, _, _, _, _, _, _, _, _, q⟩ := z
      exact q
    intro w mg fa h Y G hmg0
    obtain ⟨K, KX, c⟩ := Y
    have hmg : mg ("law" : PySem.Str) = some (.ref fa) := by
      have e : (HandSHeadRun.topDef (OpenLaw.row PySem.Challenge.rw_placesayings_k04_whole_machines_and_what).prog 69).name = ("law" : PySem.Str) := by kernel_rfl
      rw [← e]
      exact hmg0
    obtain ⟨wf, hp⟩ := hp
    exact ⟨K, KX, EV.law_at (iLaw := 52) (wf := wf) (dl := K04.d_law) KX G hmg c K04.ok rfl rfl rfl hp⟩
end

section
set_option Elab.async false
set_option linter.all false
set_option maxRecDepth 100000
set_option maxHeartbeats 4000000
/-! P04m: machines in plain Lean: ways, counts -/
namespace K04
open EV
abbrev Stp := List (List Nat)
def stp (δ : Stp) (s a : Nat) : Nat := (δ.getD s []).getD a 0
def aft (δ : Stp) : Nat → List Nat → Nat
  | s, [] => s
  | s, a :: w => aft δ (stp δ s a) w
structure OkS (δ : Stp) (m : Nat) : Prop where
  pos : 1 ≤ δ.length
  row : ∀ r ∈ δ, r.length = m
  lt : ∀ r ∈ δ, ∀ x ∈ r, x < δ.length
section
variable {δ : Stp} {m : Nat}
theorem row_at {s : Nat} (hs : s < δ.length) : δ[s]? = some (δ.getD s []) ∧ δ.getD s [] ∈ δ := by
  have e : δ[s]? = some δ[s] := List.getElem?_eq_getElem hs
  have e2 : δ.getD s [] = δ[s] := by rw [List.getD_eq_getElem?_getD, e]; rfl
  exact ⟨by rw [e2]; exact e, by rw [e2]; exact List.getElem_mem hs⟩
theorem OkS.stp_at (h : OkS δ m) {s a : Nat} (hs : s < δ.length) (ha : a < m) : (δ.getD s [])[a]? = some (stp δ s a) ∧ stp δ s a < δ.length := by
  obtain ⟨_, hm⟩ := row_at hs
  have hl := h.row _ hm
  have e : (δ.getD s [])[a]? = some (δ.getD s [])[a] := List.getElem?_eq_getElem (by omega)
  have e2 : stp δ s a = (δ.getD s [])[a] := by unfold stp; rw [List.getD_eq_getElem?_getD, e]; rfl
  exact ⟨by rw [e2]; exact e, by rw [e2]; exact h.lt _ hm _ (List.getElem_mem _)⟩
theorem OkS.aft_lt (h : OkS δ m) : ∀ {w : List Nat} {s : Nat}, s < δ.length → (∀ a ∈ w, a < m) → aft δ s w < δ.length
  | [], s, hs, _ => hs
  | a :: w, s, hs, ha => h.aft_lt (w := w) (h.stp_at hs (ha a List.mem_cons_self)).2 fun b hb => ha b (List.mem_cons_of_mem _ hb)
theorem aft_snoc (s : Nat) : ∀ (w : List Nat) (s : Nat) (a : Nat), aft δ s (w ++ [a]) = stp δ (aft δ s w) a
  | [], s, a => rfl
  | b :: w, s, a => aft_snoc s w _ a
end
/-! ### lists without repeats -/
theorem nodup_len {α : Type} [DecidableEq α] : ∀ (l r : List α), l.Nodup → (∀ x ∈ l, x ∈ r) → l.length ≤ r.length
  | [], r, _, _ => Nat.zero_le _
  | x :: l, r, nd, h => by
    obtain ⟨n1, n2⟩ := List.nodup_cons.mp nd
    have hx := h x List.mem_cons_self
    have := nodup_len l (r.erase x) n2 fun y hy => by
      rw [List.mem_erase_of_ne (fun e : y = x => n1 (by rw [← e]; exact hy))]
      exact h y (List.mem_cons_of_mem _ hy)
    rw [List.length_erase_of_mem hx] at this
    have : 0 < r.length := List.length_pos_of_mem hx
    simp only [List.length_cons]
    omega
theorem nodup_lt {l : List Nat} {n : Nat} (nd : l.Nodup) (h : ∀ x ∈ l, x < n) : l.length ≤ n := by
  have := nodup_len l (List.range n) nd fun x hx => List.mem_range.mpr (h x hx)
  rwa [List.length_range] at this
/-! ### tables -/
theorem valA_none {κ β : Type} [DecidableEq κ] {W : List (κ × β)} {k : κ} (h : ∀ p ∈ W, p.1 ≠ k) : valA W k = none := by
  unfold valA
  rw [List.find?_eq_none.mpr fun p hp => by simpa using h p hp]
  rfl
theorem valA_mem {κ β : Type} [DecidableEq κ] : ∀ {W : List (κ × β)} {p : κ × β}, (W.map Prod.fst).Nodup → p ∈ W → valA W p.1 = some p.2
  | [], p, _, h => by cases h
  | q :: W, p, nd, h => by
    rw [List.map_cons, List.nodup_cons] at nd
    rcases List.mem_cons.mp h with e | h
    · subst e; simp [valA]
    · have : q.1 ≠ p.1 := fun e => nd.1 (by rw [e]; exact List.mem_map_of_mem h)
      have r := valA_mem nd.2 h
      unfold valA at r ⊢
      rw [List.find?_cons_of_neg (by simpa using this)]
      exact r
theorem any_key {κ β : Type} [DecidableEq κ] {W : List (κ × β)} {k : κ} : (W.any fun kv => decide (kv.1 = k)) = true ↔ k ∈ W.map Prod.fst := by
  rw [List.any_eq_true, List.mem_map]
  constructor
  · rintro ⟨p, h1, h2⟩; exact ⟨p, h1, by simpa using h2⟩
  · rintro ⟨p, h1, h2⟩; exact ⟨p, h1, by simpa using h2⟩
theorem putA_new {κ β : Type} [DecidableEq κ] {W : List (κ × β)} {k : κ} {v : β} (h : k ∉ W.map Prod.fst) : putA W k v = W ++ [(k, v)] := by
  unfold putA
  rw [if_neg fun z => h (any_key.mp z)]
theorem putA_keys {κ β : Type} [DecidableEq κ] {W : List (κ × β)} {k : κ} {v : β} : (putA W k v).map Prod.fst = if k ∈ W.map Prod.fst then W.map Prod.fst else W.map Prod.fst ++ [k] := by
  unfold putA
  by_cases h : k ∈ W.map Prod.fst
  · rw [if_pos (any_key.mpr h), if_pos h, List.map_map]
    congr 1
    funext p
    by_cases e : p.1 = k <;> simp [e]
  · rw [if_neg fun z => h (any_key.mp z), if_neg h]; simp
theorem putA_nodup {κ β : Type} [DecidableEq κ] {W : List (κ × β)} {k : κ} {v : β} (h : (W.map Prod.fst).Nodup) : ((putA W k v).map Prod.fst).Nodup := by
  rw [putA_keys]
  split
  · exact h
  · rename_i n
    rw [List.nodup_append]
    exact ⟨h, by simp, fun a ha b hb e => n (by rw [List.mem_singleton.mp hb] at e; rw [← e]; exact ha)⟩
theorem putA_mem {κ β : Type} [DecidableEq κ] {W : List (κ × β)} {k x : κ} {v : β} (h : x ∈ (putA W k v).map Prod.fst) : x ∈ W.map Prod.fst ∨ x = k := by
  rw [putA_keys] at h
  split at h
  · exact .inl h
  · simpa using h
/-! ### counts -/
def dot (W : List (Nat × Nat)) (f : Nat → Nat) : Nat := (W.map fun p => p.2 * f p.1).sum
def updW (W : List (Nat × Nat)) (t c : Nat) : List (Nat × Nat) := putA W t ((valA W t).getD 0 + c)
theorem dot_map (f : Nat → Nat) (t c v : Nat) : ∀ (W : List (Nat × Nat)), (W.map Prod.fst).Nodup → t ∈ W.map Prod.fst → valA W t = some v → dot (W.map fun kv => if kv.1 = t then (kv.1, v + c) else kv) f = dot W f + c * f t
  | [], _, h, _ => by simp at h
  | (k, x) :: W, nd, h, hv => by
    rw [List.map_cons, List.nodup_cons] at nd
    by_cases e : k = t
    · subst e
      have hx : x = v := by simpa [valA] using hv
      subst hx
      have rest : W.map (fun kv => if kv.1 = k then (kv.1, x + c) else kv) = W := by
        refine (List.map_congr_left fun p hp => ?_).trans (List.map_id W)
        have hm : p.1 ∈ W.map Prod.fst := List.mem_map.mpr ⟨p, hp, rfl⟩
        have z : p.1 ≠ k := fun z => by rw [z] at hm; exact nd.1 hm
        rw [if_neg z]
        rfl
      simp only [List.map_cons, if_true]
      rw [rest]
      simp only [dot, List.map_cons, List.sum_cons, Nat.add_mul]
      omega
    · have ht : t ∈ W.map Prod.fst := by
        rcases List.mem_cons.mp h with z | z
        · exact absurd z.symm e
        · exact z
      have hv' : valA W t = some v := by
        unfold valA at hv ⊢
        rwa [List.find?_cons_of_neg (by simpa using e)] at hv
      have := dot_map f t c v W nd.2 ht hv'
      simp only [List.map_cons, if_neg e]
      simp only [dot, List.map_cons, List.sum_cons] at this ⊢
      omega
theorem valA_some {κ β : Type} [DecidableEq κ] {W : List (κ × β)} {k : κ} (h : k ∈ W.map Prod.fst) : ∃ v, valA W k = some v := by
  unfold valA
  cases e : W.find? fun kv => decide (kv.1 = k) with
  | some p => exact ⟨p.2, rfl⟩
  | none =>
    obtain ⟨p, hp, hk⟩ := List.mem_map.mp h
    have := List.find?_eq_none.mp e p hp
    simp [hk] at this
theorem dot_upd {W : List (Nat × Nat)} (nd : (W.map Prod.fst).Nodup) (t c : Nat) (f : Nat → Nat) : dot (updW W t c) f = dot W f + c * f t := by
  unfold updW
  by_cases h : t ∈ W.map Prod.fst
  · obtain ⟨v, hv⟩ := valA_some h
    rw [hv]
    unfold putA
    rw [if_pos (any_key.mpr h)]
    exact dot_map f t c v W nd h hv
  · rw [valA_none fun p hp e => h (by rw [← e]; exact List.mem_map_of_mem hp), putA_new h]
    simp [dot]
theorem updW_nodup {W : List (Nat × Nat)} (nd : (W.map Prod.fst).Nodup) (t c : Nat) : ((updW W t c).map Prod.fst).Nodup := putA_nodup nd
theorem updW_lt {W : List (Nat × Nat)} {n t c : Nat} (h : ∀ x ∈ W.map Prod.fst, x < n) (ht : t < n) : ∀ x ∈ (updW W t c).map Prod.fst, x < n := fun x hx => by
  rcases putA_mem hx with z | z
  · exact h x z
  · rw [z]; exact ht
/-- one row's states told on -/
def rowW (c : Nat) : List Nat → List (Nat × Nat) → List (Nat × Nat)
  | [], L => L
  | t :: r, L => rowW c r (updW L t c)
def stepW (δ : Stp) : List (Nat × Nat) → List (Nat × Nat) → List (Nat × Nat)
  | [], L => L
  | p :: W, L => stepW δ W (rowW p.2 (δ.getD p.1 []) L)
structure OkW (n : Nat) (L : List (Nat × Nat)) : Prop where
  nd : (L.map Prod.fst).Nodup
  lt : ∀ x ∈ L.map Prod.fst, x < n
theorem OkW.len {n : Nat} {L : List (Nat × Nat)} (h : OkW n L) : L.length ≤ n := by
  have := nodup_lt h.nd h.lt
  rwa [List.length_map] at this
theorem rowW_ok {n c : Nat} : ∀ (r : List Nat) {L : List (Nat × Nat)}, (∀ t ∈ r, t < n) → OkW n L → OkW n (rowW c r L) ∧ ∀ f, dot (rowW c r L) f = dot L f + c * (r.map f).sum
  | [], L, _, h => ⟨h, fun f => by simp [rowW]⟩
  | t :: r, L, hr, h => by
    have ht := hr t List.mem_cons_self
    obtain ⟨h1, h2⟩ := rowW_ok (c := c) r (L := updW L t c) (fun x hx => hr x (List.mem_cons_of_mem _ hx)) ⟨updW_nodup h.nd t c, updW_lt h.lt ht⟩
    refine ⟨h1, fun f => ?_⟩
    show dot (rowW c r (updW L t c)) f = _
    rw [h2, dot_upd h.nd]
    simp only [List.map_cons, List.sum_cons, Nat.mul_add]
    omega
theorem stepW_ok {δ : Stp} {m : Nat} (hδ : OkS δ m) : ∀ (W : List (Nat × Nat)) {L : List (Nat × Nat)}, (∀ p ∈ W, p.1 < δ.length) → OkW δ.length L → OkW δ.length (stepW δ W L) ∧ ∀ f, dot (stepW δ W L) f = dot L f + dot W fun s => ((δ.getD s []).map f).sum
  | [], L, _, h => ⟨h, fun f => by simp [stepW, dot]⟩
  | p :: W, L, hW, h => by
    obtain ⟨_, hm⟩ := row_at (hW p List.mem_cons_self)
    obtain ⟨h1, h2⟩ := rowW_ok (c := p.2) (δ.getD p.1 []) (fun t ht => hδ.lt _ hm t ht) h
    obtain ⟨h3, h4⟩ := stepW_ok hδ W (L := rowW p.2 (δ.getD p.1 []) L) (fun q hq => hW q (List.mem_cons_of_mem _ hq)) h1
    refine ⟨h3, fun f => ?_⟩
    show dot (stepW δ W _) f = _
    rw [h4, h2]
    simp only [dot, List.map_cons, List.sum_cons]
    omega
def waysW (δ : Stp) : Nat → List (Nat × Nat)
  | 0 => [(0, 1)]
  | k + 1 => stepW δ (waysW δ k) []
def fn (δ : Stp) (e : Nat → Nat) : Nat → Nat → Nat
  | 0, s => e s
  | k + 1, s => ((δ.getD s []).map (fn δ e k)).sum
theorem waysW_ok {δ : Stp} {m : Nat} (hδ : OkS δ m) : ∀ k, OkW δ.length (waysW δ k)
  | 0 => ⟨by simp [waysW], fun x hx => by simp [waysW] at hx; subst hx; exact hδ.pos⟩
  | k + 1 => (stepW_ok hδ _ (fun p hp => (waysW_ok hδ k).lt _ (List.mem_map_of_mem hp)) ⟨by simp, by simp⟩).1
theorem ways_dot {δ : Stp} {m : Nat} (hδ : OkS δ m) (e : Nat → Nat) : ∀ k j, dot (waysW δ k) (fn δ e j) = fn δ e (k + j) 0
  | 0, j => by simp [waysW, dot]
  | k + 1, j => by
    have h := (stepW_ok hδ (waysW δ k) (L := []) (fun p hp => (waysW_ok hδ k).lt _ (List.mem_map_of_mem hp)) ⟨by simp, by simp⟩).2 (fn δ e j)
    have e2 : dot (waysW δ k) (fun s => ((δ.getD s []).map (fn δ e j)).sum) = dot (waysW δ k) (fn δ e (j + 1)) := rfl
    show dot (stepW δ (waysW δ k) []) _ = _
    rw [h, e2, ways_dot hδ e k (j + 1)]
    simp only [dot, List.map_nil, List.sum_nil, Nat.zero_add]
    congr 1
    omega
/-- what stands by the ends -/
def ind (p : Nat → Bool) (s : Nat) : Nat := if p s then 1 else 0
theorem dot_ind (p : Nat → Bool) : ∀ W : List (Nat × Nat), dot W (ind p) = ((W.filter fun q => p q.1).map Prod.snd).sum
  | [] => rfl
  | q :: W => by
    have := dot_ind p W
    simp only [dot, List.map_cons, List.sum_cons, ind] at this ⊢
    by_cases h : p q.1 = true
    · simp [List.filter_cons, h, this]
    · simp [List.filter_cons, h, this]
theorem fn_not {δ : Stp} {m : Nat} (hδ : OkS δ m) (p : Nat → Bool) : ∀ k s, s < δ.length → fn δ (ind p) k s + fn δ (ind fun s => !p s) k s = m ^ k
  | 0, s, _ => by
    simp only [fn, ind, Nat.pow_zero]
    by_cases h : p s = true <;> simp [h]
  | k + 1, s, hs => by
    obtain ⟨_, hm⟩ := row_at hs
    have hl := hδ.row _ hm
    have hlt := hδ.lt _ hm
    have gen : ∀ r : List Nat, (∀ x ∈ r, x < δ.length) → (r.map (fn δ (ind p) k)).sum + (r.map (fn δ (ind fun s => !p s) k)).sum = r.length * m ^ k := by
      intro r
      induction r with
      | nil => simp
      | cons x r ih =>
        intro h
        have h1 := fn_not hδ p k x (h x List.mem_cons_self)
        have h2 := ih fun y hy => h y (List.mem_cons_of_mem _ hy)
        simp only [List.map_cons, List.sum_cons, List.length_cons, Nat.add_mul]
        omega
    show ((δ.getD s []).map _).sum + ((δ.getD s []).map _).sum = _
    rw [gen _ hlt, hl, Nat.pow_succ, Nat.mul_comm]
theorem fn_congr {δ : Stp} {m : Nat} (hδ : OkS δ m) {e e' : Nat → Nat} (h : ∀ s, s < δ.length → e s = e' s) : ∀ k s, s < δ.length → fn δ e k s = fn δ e' k s
  | 0, s, hs => h s hs
  | k + 1, s, hs => by
    obtain ⟨_, hm⟩ := row_at hs
    show ((δ.getD s []).map _).sum = ((δ.getD s []).map _).sum
    congr 1
    exact List.map_congr_left fun x hx => fn_congr hδ h k x (hδ.lt _ hm x hx)
/-! ### what is come to -/
def expd (pre : List Nat) : List Nat → Nat → List (Nat × List Nat) → List (Nat × List Nat)
  | [], _, f => f
  | t :: r, k, f => expd pre r (k + 1) (if t ∈ f.map Prod.fst then f else f ++ [(t, pre ++ [k])])
/-- what is told, n more states from those that wait (behind the first d ones told) -/
def bfs (δ : Stp) : Nat → Nat → List (Nat × List Nat) → List (Nat × List Nat)
  | 0, _, f => f
  | k + 1, d, f => match f[d]? with
    | none => f
    | some p => bfs δ k (d + 1) (expd p.2 (δ.getD p.1 []) 0 f)
structure OkF (n m : Nat) (f : List (Nat × List Nat)) : Prop where
  nd : (f.map Prod.fst).Nodup
  lt : ∀ p ∈ f, p.1 < n
  len : ∀ (i : Nat) (p : Nat × List Nat), f[i]? = some p → p.2.length ≤ i
  sym : ∀ p ∈ f, ∀ a ∈ p.2, a < m
theorem OkF.le {n m : Nat} {f : List (Nat × List Nat)} (h : OkF n m f) : f.length ≤ n := by
  have := nodup_lt h.nd fun x hx => by
    obtain ⟨p, hp, rfl⟩ := List.mem_map.mp hx
    exact h.lt p hp
  rwa [List.length_map] at this
theorem expd_ok {n m : Nat} {pre : List Nat} : ∀ (r : List Nat) (k : Nat) {f : List (Nat × List Nat)}, (∀ t ∈ r, t < n) → k + r.length ≤ m → OkF n m f → pre.length < f.length → (∀ a ∈ pre, a < m) → OkF n m (expd pre r k f) ∧ f <+: expd pre r k f
  | [], k, f, _, _, h, _, _ => ⟨h, List.prefix_refl _⟩
  | t :: r, k, f, hr, hk, h, hp, hs => by
    simp only [List.length_cons] at hk
    by_cases e : t ∈ f.map Prod.fst
    · show OkF n m (expd pre r (k + 1) (if t ∈ f.map Prod.fst then f else _)) ∧ f <+: expd pre r (k + 1) (if t ∈ f.map Prod.fst then f else _)
      rw [if_pos e]
      exact expd_ok r (k + 1) (fun x hx => hr x (List.mem_cons_of_mem _ hx)) (by omega) h hp hs
    · show OkF n m (expd pre r (k + 1) (if t ∈ f.map Prod.fst then f else f ++ [(t, pre ++ [k])])) ∧ f <+: expd pre r (k + 1) (if t ∈ f.map Prod.fst then f else f ++ [(t, pre ++ [k])])
      rw [if_neg e]
      have key : OkF n m (f ++ [(t, pre ++ [k])]) := by
        refine ⟨?_, ?_, ?_, ?_⟩
        · have q : (f ++ [(t, pre ++ [k])]).map Prod.fst = f.map Prod.fst ++ [t] := by simp
          rw [q]
          exact List.nodup_append.mpr ⟨h.nd, by simp, fun a ha b hb z => e (by rw [List.mem_singleton.mp hb] at z; rw [← z]; exact ha)⟩
        · intro p hp2
          rcases List.mem_append.mp hp2 with z | z
          · exact h.lt p z
          · rw [List.mem_singleton.mp z]; exact hr t List.mem_cons_self
        · intro i p hi
          by_cases z : i < f.length
          · rw [List.getElem?_append_left z] at hi; exact h.len i p hi
          · rw [List.getElem?_append_right (by omega)] at hi
            have z2 : i - f.length = 0 := by
              rcases Nat.eq_zero_or_pos (i - f.length) with q | q
              · exact q
              · rw [List.getElem?_eq_none (by simp; omega)] at hi; cases hi
            rw [z2] at hi
            have : p = (t, pre ++ [k]) := by simpa using hi.symm
            rw [this]
            simp
            omega
        · intro p hp2 a ha
          rcases List.mem_append.mp hp2 with z | z
          · exact h.sym p z a ha
          · rw [List.mem_singleton.mp z] at ha
            rcases List.mem_append.mp ha with q | q
            · exact hs a q
            · rw [List.mem_singleton.mp q]; omega
      obtain ⟨h1, h2⟩ := expd_ok (pre := pre) (n := n) (m := m) r (k + 1) (f := f ++ [(t, pre ++ [k])]) (fun x hx => hr x (List.mem_cons_of_mem _ hx)) (by omega) key (by simp; omega) hs
      exact ⟨h1, (List.prefix_append f _).trans h2⟩
theorem bfs_step {δ : Stp} {m : Nat} (hδ : OkS δ m) {d : Nat} {f : List (Nat × List Nat)} {p : Nat × List Nat} (h : OkF δ.length m f) (hd : f[d]? = some p) : OkF δ.length m (expd p.2 (δ.getD p.1 []) 0 f) ∧ f <+: expd p.2 (δ.getD p.1 []) 0 f := by
  have hp := List.mem_of_getElem? hd
  obtain ⟨_, hm⟩ := row_at (h.lt p hp)
  have := h.len d p hd
  have := (List.getElem?_eq_some_iff.mp hd).1
  exact expd_ok _ 0 (hδ.lt _ hm) (by rw [hδ.row _ hm]; omega) h (by omega) (h.sym p hp)
theorem bfs_ok {δ : Stp} {m : Nat} (hδ : OkS δ m) : ∀ (k d : Nat) {f : List (Nat × List Nat)}, OkF δ.length m f → OkF δ.length m (bfs δ k d f)
  | 0, _, f, h => h
  | k + 1, d, f, h => by
    unfold bfs
    cases e : f[d]? with
    | none => exact h
    | some p => exact bfs_ok hδ k (d + 1) (bfs_step hδ h e).1
theorem bfs_more {δ : Stp} {m : Nat} (hδ : OkS δ m) : ∀ (k j d : Nat) {f : List (Nat × List Nat)}, OkF δ.length m f → δ.length ≤ d + k → bfs δ (k + j) d f = bfs δ k d f
  | 0, j, d, f, h, hd => by
    have := h.le
    have e : f[d]? = none := List.getElem?_eq_none (by omega)
    cases j with
    | zero => rfl
    | succ j =>
      show bfs δ (0 + (j + 1)) d f = f
      rw [Nat.zero_add]
      unfold bfs
      rw [e]
  | k + 1, j, d, f, h, hd => by
    rw [show k + 1 + j = (k + j) + 1 from by omega]
    unfold bfs
    cases e : f[d]? with
    | none => rfl
    | some p => exact bfs_more hδ k j (d + 1) (bfs_step hδ h e).1 (by omega)
def come (δ : Stp) : List (Nat × List Nat) := bfs δ δ.length 0 [(0, [])]
theorem start_ok {δ : Stp} {m : Nat} (hδ : OkS δ m) : OkF δ.length m [(0, [])] := ⟨by simp, fun p hp => by rw [List.mem_singleton.mp hp]; exact hδ.pos, fun i p hi => by
  cases i with
  | zero => cases hi; exact Nat.le_refl _
  | succ i => simp at hi, fun p hp => by rw [List.mem_singleton.mp hp]; intro a ha; cases ha⟩
theorem come_ok {δ : Stp} {m : Nat} (hδ : OkS δ m) : OkF δ.length m (come δ) := bfs_ok hδ _ _ (start_ok hδ)
end K04
end

section
set_option Elab.async false
set_option linter.all false
set_option maxRecDepth 100000
set_option maxHeartbeats 4000000
/-! P04p: the machine of two, in plain Lean -/
namespace K04
open EV
abbrev Pr := Nat × Nat
def exP : List Pr → List Pr → List Pr
  | [], o => o
  | p :: ps, o => exP ps (if p ∈ o then o else o ++ [p])
def prs (δ ε : Stp) (p : Pr) : List Pr := (δ.getD p.1 []).zip (ε.getD p.2 [])
def numO (δ ε : Stp) : Nat → Nat → List Pr → List Pr
  | 0, _, o => o
  | k + 1, d, o => match o[d]? with
    | none => o
    | some p => numO δ ε k (d + 1) (exP (prs δ ε p) o)
def rowP (δ ε : Stp) (o : List Pr) (p : Pr) : List Nat := (prs δ ε p).map fun q => o.idxOf q
theorem idx_pre {o o' : List Pr} {q : Pr} (h : o <+: o') (hq : q ∈ o) : o'.idxOf q = o.idxOf q := by
  obtain ⟨r, rfl⟩ := h
  rw [List.idxOf_append, if_pos hq]
theorem idx_at {o : List Pr} {q : Pr} (hq : q ∈ o) : o[o.idxOf q]? = some q := by
  have h := List.idxOf_lt_length_of_mem hq
  rw [List.getElem?_eq_getElem h, List.getElem_idxOf]
structure OkP (n1 n2 : Nat) (o : List Pr) : Prop where
  nd : o.Nodup
  lt : ∀ p ∈ o, p.1 < n1 ∧ p.2 < n2
theorem sum_const (n : Nat) : ∀ l : List Nat, (l.map fun _ => n).sum = l.length * n
  | [] => by simp
  | x :: l => by simp [sum_const n l, Nat.add_mul, Nat.add_comm]
theorem OkP.le {n1 n2 : Nat} {o : List Pr} (h : OkP n1 n2 o) : o.length ≤ n1 * n2 := by
  have := nodup_len o ((List.range n1).flatMap fun s => (List.range n2).map fun t => (s, t)) h.nd fun p hp => by
    rw [List.mem_flatMap]
    exact ⟨p.1, List.mem_range.mpr (h.lt p hp).1, List.mem_map.mpr ⟨p.2, List.mem_range.mpr (h.lt p hp).2, rfl⟩⟩
  rw [List.length_flatMap] at this
  simp only [List.length_map, List.length_range] at this
  rw [sum_const, List.length_range] at this
  exact this
theorem exP_ok {n1 n2 : Nat} : ∀ (ps : List Pr) {o : List Pr}, (∀ p ∈ ps, p.1 < n1 ∧ p.2 < n2) → OkP n1 n2 o → OkP n1 n2 (exP ps o) ∧ o <+: exP ps o ∧ ∀ p ∈ ps, p ∈ exP ps o
  | [], o, _, h => ⟨h, List.prefix_refl _, fun p hp => by cases hp⟩
  | p :: ps, o, hp, h => by
    have hr := fun q hq => hp q (List.mem_cons_of_mem p hq)
    by_cases e : p ∈ o
    · have e2 : exP (p :: ps) o = exP ps o := by show exP ps (if p ∈ o then o else _) = _; rw [if_pos e]
      rw [e2]
      obtain ⟨a, b, c⟩ := exP_ok ps hr h
      refine ⟨a, b, fun q hq => ?_⟩
      rcases List.mem_cons.mp hq with z | z
      · rw [z]; exact b.subset e
      · exact c q z
    · have e2 : exP (p :: ps) o = exP ps (o ++ [p]) := by show exP ps (if p ∈ o then o else _) = _; rw [if_neg e]
      rw [e2]
      have key : OkP n1 n2 (o ++ [p]) := by
        refine ⟨List.nodup_append.mpr ⟨h.nd, by simp, fun a ha b hb z => e (by rw [List.mem_singleton.mp hb] at z; rw [← z]; exact ha)⟩, fun q hq => ?_⟩
        rcases List.mem_append.mp hq with z | z
        · exact h.lt q z
        · rw [List.mem_singleton.mp z]; exact hp p List.mem_cons_self
      obtain ⟨a, b, c⟩ := exP_ok ps hr key
      refine ⟨a, (List.prefix_append o _).trans b, fun q hq => ?_⟩
      rcases List.mem_cons.mp hq with z | z
      · rw [z]; exact b.subset (by simp)
      · exact c q z
section
variable {δ ε : Stp} {m : Nat}
theorem prs_ok (hδ : OkS δ m) (hε : OkS ε m) {p : Pr} (h1 : p.1 < δ.length) (h2 : p.2 < ε.length) :
    (prs δ ε p).length = m ∧ (prs δ ε p).map Prod.fst = δ.getD p.1 [] ∧ (prs δ ε p).map Prod.snd = ε.getD p.2 [] ∧ (∀ q ∈ prs δ ε p, q.1 < δ.length ∧ q.2 < ε.length) ∧ ∀ a, a < m → (prs δ ε p)[a]? = some (stp δ p.1 a, stp ε p.2 a) := by
  obtain ⟨_, m1⟩ := row_at h1
  obtain ⟨_, m2⟩ := row_at h2
  have l1 := hδ.row _ m1
  have l2 := hε.row _ m2
  refine ⟨by unfold prs; rw [List.length_zip, l1, l2, Nat.min_self], List.map_fst_zip (by omega), List.map_snd_zip (by omega), fun q hq => ?_, fun a ha => ?_⟩
  · obtain ⟨z1, z2⟩ := List.of_mem_zip (show (q.1, q.2) ∈ (δ.getD p.1 []).zip (ε.getD p.2 []) from hq)
    exact ⟨hδ.lt _ m1 _ z1, hε.lt _ m2 _ z2⟩
  · unfold prs
    rw [List.getElem?_zip_eq_some]
    exact ⟨(hδ.stp_at h1 ha).1, (hε.stp_at h2 ha).1⟩
/-- all that stands ahead of place d has its pairs told -/
def clsd (δ ε : Stp) (d : Nat) (o : List Pr) : Prop := ∀ (i : Nat) (p : Pr), i < d → o[i]? = some p → ∀ q ∈ prs δ ε p, q ∈ o
theorem num_step (hδ : OkS δ m) (hε : OkS ε m) {d : Nat} {o : List Pr} {p : Pr} (h : OkP δ.length ε.length o) (hc : clsd δ ε d o) (hd : o[d]? = some p) :
    OkP δ.length ε.length (exP (prs δ ε p) o) ∧ o <+: exP (prs δ ε p) o ∧ clsd δ ε (d + 1) (exP (prs δ ε p) o) := by
  have hp := List.mem_of_getElem? hd
  obtain ⟨_, _, _, q4, _⟩ := prs_ok hδ hε (h.lt p hp).1 (h.lt p hp).2
  obtain ⟨a, b, c⟩ := exP_ok (prs δ ε p) q4 h
  have hl := (List.getElem?_eq_some_iff.mp hd).1
  have same : ∀ i, i < o.length → (exP (prs δ ε p) o)[i]? = o[i]? := fun i hi => by
    obtain ⟨r, e⟩ := b
    rw [← e, List.getElem?_append_left hi]
  refine ⟨a, b, fun i q hi hq r hr => ?_⟩
  rw [same i (by omega)] at hq
  by_cases e : i < d
  · exact b.subset (hc i q e hq r hr)
  · have : i = d := by omega
    subst this
    rw [hd] at hq
    cases hq
    exact c r hr
theorem numO_ok (hδ : OkS δ m) (hε : OkS ε m) : ∀ (k d : Nat) {o : List Pr}, OkP δ.length ε.length o → clsd δ ε d o → d ≤ o.length → δ.length * ε.length ≤ d + k →
    OkP δ.length ε.length (numO δ ε k d o) ∧ o <+: numO δ ε k d o ∧ clsd δ ε (numO δ ε k d o).length (numO δ ε k d o)
  | 0, d, o, h, hc, hd, hk => by
    have := h.le
    have e : d = o.length := by omega
    exact ⟨h, List.prefix_refl _, by show clsd δ ε o.length o; rw [← e]; exact hc⟩
  | k + 1, d, o, h, hc, hd, hk => by
    unfold numO
    cases e : o[d]? with
    | none =>
      have : o.length ≤ d := List.getElem?_eq_none_iff.mp e
      have e2 : d = o.length := by omega
      exact ⟨h, List.prefix_refl _, by rw [← e2]; exact hc⟩
    | some p =>
      obtain ⟨a, b, c⟩ := num_step hδ hε h hc e
      have hl := (List.getElem?_eq_some_iff.mp e).1
      have hb := b.length_le
      obtain ⟨x, y, z⟩ := numO_ok hδ hε k (d + 1) a c (by omega) (by omega)
      exact ⟨x, b.trans y, z⟩
theorem numO_more : ∀ (k j d : Nat) {o : List Pr}, OkS δ m → OkS ε m → OkP δ.length ε.length o → clsd δ ε d o → δ.length * ε.length ≤ d + k → numO δ ε (k + j) d o = numO δ ε k d o
  | 0, j, d, o, hδ, hε, h, hc, hk => by
    have := h.le
    have e : o[d]? = none := List.getElem?_eq_none (by omega)
    cases j with
    | zero => rfl
    | succ j =>
      rw [show 0 + (j + 1) = j + 1 from by omega]
      unfold numO
      rw [e]
  | k + 1, j, d, o, hδ, hε, h, hc, hk => by
    rw [show k + 1 + j = (k + j) + 1 from by omega]
    unfold numO
    cases e : o[d]? with
    | none => rfl
    | some p =>
      obtain ⟨a, b, c⟩ := num_step hδ hε h hc e
      exact numO_more k j (d + 1) hδ hε a c (by omega)
def ordO (δ ε : Stp) : List Pr := numO δ ε (δ.length * ε.length) 0 [(0, 0)]
def rowsO (δ ε : Stp) : Stp := (ordO δ ε).map (rowP δ ε (ordO δ ε))
theorem ord0 (hδ : OkS δ m) (hε : OkS ε m) : OkP δ.length ε.length [(0, 0)] ∧ clsd δ ε 0 [(0, 0)] :=
  ⟨⟨by simp, fun p hp => by rw [List.mem_singleton.mp hp]; exact ⟨hδ.pos, hε.pos⟩⟩, fun i p hi => by omega⟩
theorem ord_ok (hδ : OkS δ m) (hε : OkS ε m) : OkP δ.length ε.length (ordO δ ε) ∧ [(0, 0)] <+: ordO δ ε ∧ clsd δ ε (ordO δ ε).length (ordO δ ε) := by
  obtain ⟨h1, h2⟩ := ord0 hδ hε
  exact numO_ok hδ hε _ 0 h1 h2 (Nat.zero_le _) (by omega)
theorem ord_len (hδ : OkS δ m) (hε : OkS ε m) : (ordO δ ε).length ≤ δ.length * ε.length := (ord_ok hδ hε).1.le
theorem ord_zero (hδ : OkS δ m) (hε : OkS ε m) : (ordO δ ε)[0]? = some (0, 0) := by
  obtain ⟨r, e⟩ := (ord_ok hδ hε).2.1
  rw [← e]
  rfl
theorem ord_in (hδ : OkS δ m) (hε : OkS ε m) {p : Pr} (hp : p ∈ ordO δ ε) : ∀ q ∈ prs δ ε p, q ∈ ordO δ ε := by
  obtain ⟨i, hi⟩ := List.mem_iff_getElem?.mp hp
  exact (ord_ok hδ hε).2.2 i p (List.getElem?_eq_some_iff.mp hi).1 hi
theorem rows_ok (hδ : OkS δ m) (hε : OkS ε m) : OkS (rowsO δ ε) m := by
  have o := (ord_ok hδ hε).1
  refine ⟨?_, fun r hr => ?_, fun r hr x hx => ?_⟩
  · have := (List.getElem?_eq_some_iff.mp (ord_zero hδ hε)).1
    unfold rowsO; rw [List.length_map]; omega
  · obtain ⟨p, hp, rfl⟩ := List.mem_map.mp hr
    unfold rowP
    rw [List.length_map]
    exact (prs_ok hδ hε (o.lt p hp).1 (o.lt p hp).2).1
  · obtain ⟨p, hp, rfl⟩ := List.mem_map.mp hr
    obtain ⟨q, hq, rfl⟩ := List.mem_map.mp hx
    unfold rowsO
    rw [List.length_map]
    exact List.idxOf_lt_length_of_mem (ord_in hδ hε hp q hq)
theorem row_eq {i : Nat} {p : Pr} (hi : (ordO δ ε)[i]? = some p) : (rowsO δ ε).getD i [] = rowP δ ε (ordO δ ε) p := by
  unfold rowsO
  rw [List.getD_eq_getElem?_getD, List.getElem?_map, hi]
  rfl
theorem prod_stp (hδ : OkS δ m) (hε : OkS ε m) {i a : Nat} {p : Pr} (hi : (ordO δ ε)[i]? = some p) (ha : a < m) : (ordO δ ε)[stp (rowsO δ ε) i a]? = some (stp δ p.1 a, stp ε p.2 a) := by
  have o := (ord_ok hδ hε).1
  have hp := List.mem_of_getElem? hi
  obtain ⟨_, _, _, _, q5⟩ := prs_ok hδ hε (o.lt p hp).1 (o.lt p hp).2
  have e := q5 a ha
  have hm := ord_in hδ hε hp _ (List.mem_of_getElem? e)
  have e2 : stp (rowsO δ ε) i a = (ordO δ ε).idxOf (stp δ p.1 a, stp ε p.2 a) := by
    unfold stp
    rw [row_eq hi]
    unfold rowP
    rw [List.getD_eq_getElem?_getD, List.getElem?_map, e]
    rfl
  rw [e2]
  exact idx_at hm
theorem prod_aft (hδ : OkS δ m) (hε : OkS ε m) : ∀ {w : List Nat} {i : Nat} {p : Pr}, (ordO δ ε)[i]? = some p → (∀ a ∈ w, a < m) → (ordO δ ε)[aft (rowsO δ ε) i w]? = some (aft δ p.1 w, aft ε p.2 w)
  | [], i, p, h, _ => h
  | a :: w, i, p, h, hw => prod_aft hδ hε (w := w) (prod_stp hδ hε h (hw a List.mem_cons_self)) fun b hb => hw b (List.mem_cons_of_mem _ hb)
/-- the places at which what is asked of two states holds -/
def onO (δ ε : Stp) (f : Nat → Nat → Bool) (i : Nat) : Bool := match (ordO δ ε)[i]? with
  | some p => f p.1 p.2
  | none => false
theorem sum_two (F G A B : Nat → Nat) (o : List Pr) : ∀ L : List Pr, (∀ q ∈ L, F (o.idxOf q) + G (o.idxOf q) = A q.1 + B q.2) → ((L.map fun q => o.idxOf q).map F).sum + ((L.map fun q => o.idxOf q).map G).sum = ((L.map Prod.fst).map A).sum + ((L.map Prod.snd).map B).sum
  | [], _ => rfl
  | q :: L, h => by
    have h1 := h q List.mem_cons_self
    have h2 := sum_two F G A B o L fun r hr => h r (List.mem_cons_of_mem _ hr)
    simp only [List.map_cons, List.sum_cons]
    omega
theorem incl (hδ : OkS δ m) (hε : OkS ε m) (p1 p2 : Nat → Bool) : ∀ (k i : Nat) (p : Pr), (ordO δ ε)[i]? = some p →
    fn (rowsO δ ε) (ind (onO δ ε fun s t => p1 s && p2 t)) k i + fn (rowsO δ ε) (ind (onO δ ε fun s t => p1 s || p2 t)) k i = fn δ (ind p1) k p.1 + fn ε (ind p2) k p.2
  | 0, i, p, hi => by
    simp only [fn, ind, onO, hi]
    by_cases h1 : p1 p.1 = true <;> by_cases h2 : p2 p.2 = true <;> simp [h1, h2]
  | k + 1, i, p, hi => by
    have o := (ord_ok hδ hε).1
    have hp := List.mem_of_getElem? hi
    obtain ⟨_, q2, q3, _, _⟩ := prs_ok hδ hε (o.lt p hp).1 (o.lt p hp).2
    show (((rowsO δ ε).getD i []).map _).sum + (((rowsO δ ε).getD i []).map _).sum = ((δ.getD p.1 []).map _).sum + ((ε.getD p.2 []).map _).sum
    rw [row_eq hi, ← q2, ← q3]
    unfold rowP
    exact sum_two _ _ _ _ _ _ fun q hq => incl hδ hε p1 p2 k _ q (idx_at (ord_in hδ hε hp q hq))
theorem excl (hδ : OkS δ m) (hε : OkS ε m) (p1 p2 : Nat → Bool) : ∀ (k i : Nat) (p : Pr), (ordO δ ε)[i]? = some p →
    fn (rowsO δ ε) (ind (onO δ ε fun s t => p1 s != p2 t)) k i + fn (rowsO δ ε) (ind (onO δ ε fun s t => p1 s && p2 t)) k i = fn (rowsO δ ε) (ind (onO δ ε fun s t => p1 s || p2 t)) k i
  | 0, i, p, hi => by
    simp only [fn, ind, onO, hi]
    by_cases h1 : p1 p.1 = true <;> by_cases h2 : p2 p.2 = true <;> simp [h1, h2]
  | k + 1, i, p, hi => by
    have o := (ord_ok hδ hε).1
    have hp := List.mem_of_getElem? hi
    show (((rowsO δ ε).getD i []).map _).sum + (((rowsO δ ε).getD i []).map _).sum = (((rowsO δ ε).getD i []).map _).sum
    rw [row_eq hi]
    unfold rowP
    have gen : ∀ L : List Pr, (∀ q ∈ L, q ∈ ordO δ ε) → ((L.map fun q => (ordO δ ε).idxOf q).map (fn (rowsO δ ε) (ind (onO δ ε fun s t => p1 s != p2 t)) k)).sum + ((L.map fun q => (ordO δ ε).idxOf q).map (fn (rowsO δ ε) (ind (onO δ ε fun s t => p1 s && p2 t)) k)).sum = ((L.map fun q => (ordO δ ε).idxOf q).map (fn (rowsO δ ε) (ind (onO δ ε fun s t => p1 s || p2 t)) k)).sum := by
      intro L
      induction L with
      | nil => intro _; rfl
      | cons q L ih =>
        intro h
        have h1 := excl hδ hε p1 p2 k _ q (idx_at (h q List.mem_cons_self))
        have h2 := ih fun r hr => h r (List.mem_cons_of_mem _ hr)
        simp only [List.map_cons, List.sum_cons]
        omega
    exact gen _ (ord_in hδ hε hp)
end
end K04
end

section
set_option Elab.async false
set_option linter.all false
set_option maxRecDepth 100000
set_option maxHeartbeats 4000000
namespace K04
open PySem EV
abbrev CN (n : Nat) := callN T.fs T.sub 100 n
abbrev UN (n : Nat) : EV.Env := ⟨CN n, 100, T.sub⟩
theorem cn_at {n f : Nat} {F : Fn} {vs : List Vl} {S : Sto} (h : T.fs[f]? = some F) : CN (n + 1) f vs S = runF (UN n) F vs S := by
  show (match T.fs[f]? with
    | some F => runF (UN n) F vs S
    | none => .stuck) = _
  rw [h]
theorem cn_call1 {n f : Nat} {x : String} {a : LE} {l : EV.Loc} {S S1 : Sto} {u : Vl} {r : EV.R Vl} (h1 : evE (UN n) a l S = .ok u S1) (h : CN n f [u] S1 = r) : evE (UN n) (.call f x (.cons a .nil)) l S = r := (ev_call1 h1).trans h
theorem cn_callN {n f : Nat} {x : String} {es : LEs} {l : EV.Loc} {S S1 : Sto} {us : List Vl} {r : EV.R Vl} (h1 : evEs (UN n) es l S = .ok us S1) (h : CN n f us S1 = r) : evE (UN n) (.call f x es) l S = r := by
  simp only [evE, h1, R.bind_ok]
  exact h
/-! ### data -/
def nD (n : Nat) : D := .int (n : Int)
def rowD (r : List Nat) : D := .tup (r.map nD)
def stD (δ : Stp) : D := .tup (δ.map rowD)
def mD (t : Nat) (δ : Stp) (E : List Nat) : D := .tup [nD t, stD δ, rowD E]
structure Mch (t : Nat) (δ : Stp) (E : List Nat) : Prop where
  tr : t ≤ 1
  ok : OkS δ (2 * 2 ^ t)
  sz : δ.length ≤ 20
  rise : E.Pairwise (· < ·)
  en : ∀ x ∈ E, x < δ.length
theorem Mch.elen {t : Nat} {δ : Stp} {E : List Nat} (h : Mch t δ E) : E.length ≤ 20 :=
  Nat.le_trans (nodup_lt (h.rise.imp fun h => Nat.ne_of_lt h) h.en) h.sz
theorem Mch.syms {t : Nat} {δ : Stp} {E : List Nat} (h : Mch t δ E) : 2 * 2 ^ t ≤ 4 := by
  have := h.tr
  rcases (by omega : t = 0 ∨ t = 1) with e | e <;> subst e <;> decide
/-! ### checks -/
def isI : D → Bool
  | .int _ => true
  | _ => false
def isW : D → Int → Int → Bool
  | .int i, lo, hi => decide (lo ≤ i) && decide (i ≤ hi)
  | _, _, _ => false
theorem c_integer (n : Nat) (x : D) (S : Sto) : CN (n + 1) 0 [.d x] S = .ok (.d (.bl (isI x))) S := by
  rw [cn_at (F := d_is_integer.fn) rfl]
  cases x <;> simp [d_is_integer, evSs, evS, evE, evEs, evO, evC, evI, R.opt, RS.opt, setTV, setT, asBool, isTy, isTyD, cmV, dicOf, ditOf, keyT, peek, peeks, cmD, biV, biW, rprV, biD, idxV, idxD, slcV, slcD, mtV, mtApp, mtPure, mtTyp, mtD, opD, take, takes, keepS, runF, noX, isI]
theorem c_within (n : Nat) (x : D) (lo hi : Int) (S : Sto) : CN (n + 2) 1 [.d x, .d (.int lo), .d (.int hi)] S = .ok (.d (.bl (isW x lo hi))) S := by
  rw [cn_at (F := d_is_within.fn) rfl]
  cases x <;> simp [d_is_within, evSs, evS, evE, evEs, evO, evC, evI, R.opt, RS.opt, setTV, setT, asBool, isTy, isTyD, cmV, dicOf, ditOf, keyT, peek, peeks, cmD, biV, biW, rprV, biD, idxV, idxD, slcV, slcD, mtV, mtApp, mtPure, mtTyp, mtD, opD, take, takes, keepS, runF, noX, c_integer, isI, isW]
  · rename_i i
    by_cases h : lo ≤ i <;> simp [h]
def isSized : D → Int → Int → Bool
  | .tup ds, lo, hi => decide (lo ≤ (ds.length : Int)) && decide ((ds.length : Int) ≤ hi)
  | _, _, _ => false
theorem c_sized (n : Nat) (x : D) (lo hi : Int) (S : Sto) : CN (n + 1) 2 [.d x, .d (.int lo), .d (.int hi)] S = .ok (.d (.bl (isSized x lo hi))) S := by
  rw [cn_at (F := d_is_sized.fn) rfl]
  cases x <;> simp [d_is_sized, evSs, evS, evE, evEs, evO, evC, evI, R.opt, RS.opt, setTV, setT, asBool, isTy, isTyD, cmV, dicOf, ditOf, keyT, peek, peeks, cmD, biV, biW, rprV, biD, idxV, idxD, slcV, slcD, mtV, mtApp, mtPure, mtTyp, mtD, opD, take, takes, keepS, runF, noX, isSized]
  · rename_i ds
    by_cases h : lo ≤ (ds.length : Int) <;> simp [h]
theorem rng_len (k : Nat) : (rangeD 0 k).length = k := by simp [rangeD]
theorem rng_at {k i : Nat} {x : D} (h : (rangeD 0 k)[i]? = some x) : i < k ∧ x = nD i := by
  unfold rangeD at h
  rw [List.getElem?_map] at h
  simp only [Int.sub_zero, Int.toNat_natCast, Int.zero_add] at h
  by_cases e : i < k
  · rw [List.getElem?_range e] at h
    cases h
    exact ⟨e, rfl⟩
  · rw [List.getElem?_eq_none (by simpa using e)] at h
    cases h
theorem wide_nat {k : Nat} (h : k ≤ 1000000) : wideI (k : Int) = true := by
  unfold wideI
  rw [Bool.and_eq_true]
  exact ⟨decide_eq_true (by omega), decide_eq_true (by omega)⟩
theorem small_nat {k : Nat} (h : k ≤ 1000000) : smallI (k : Int) = true := small_of (by omega) (by omega)
theorem take_self (S : Sto) : S.take S.length = S := List.take_length
theorem c_power (n : Nat) (a k : Nat) (S : Sto) (ha : a ≤ 4) (hk : k ≤ 100) : CN (n + 1) 7 [.d (nD a), .d (nD k)] S = .ok (.d (nD (a ^ k))) S := by
  rw [cn_at (F := d_power_of.fn) rfl]
  obtain ⟨l', S', h1, o, rfl, rfl⟩ := forGo_inv (t := .nm 3) (b := evSs (UN n) f_power_of_1) (fun j l S' => ∃ o, l = [some (.d (nD a)), some (.d (nD k)), some (.d (nD (a ^ j))), o] ∧ S' = S) (xs := rangeD 0 k) (k := 0) (l := [some (.d (nD a)), some (.d (nD k)), some (.d (nD 1)), none]) (S := S) ⟨none, by simp, rfl⟩ (fun i x l S' hx hI => by
    obtain ⟨o, rfl, rfl⟩ := hI
    refine ⟨_, _, _, rfl, ?_, some (.d x), rfl, rfl⟩
    have h : opD .mul (nD (a ^ (0 + i))) (nD a) = some (nD (a ^ (0 + i + 1))) := by
      refine (opD_mul (small_nat (by omega))).trans ?_
      simp [nD, Nat.pow_succ]
    exact (evSs_cons (ev_asgD (i := 2) (ev_op (ev_var rfl) (ev_var rfl) h))).trans rfl)
  rw [rng_len, Nat.zero_add] at h1
  exact run_d rfl ((evSs_cons (ev_asgD ev_lit)).trans ((evSs_cons ((ev_for (ev_rng1 (ev_var rfl) (wide_nat (by omega)))).trans h1)).trans (evSs_ret (ev_ret (ev_var rfl))))) (take_self _)
theorem c_symbols (n : Nat) (t : Nat) (S : Sto) (ht : t ≤ 4) : CN (n + 2) 8 [.d (nD t)] S = .ok (.d (nD (2 * 2 ^ t))) S := by
  rw [cn_at (F := d_symbols_of.fn) rfl]
  have h : evE (UN (n + 1)) (.op .mul (.lit (.int 2)) (.call 7 "power_of" (.cons (.lit (.int 2)) (.cons (.var 0) .nil)))) [some (.d (nD t))] S = .ok (.d (nD (2 * 2 ^ t))) S :=
    ev_op ev_lit (cn_callN (evEs_cons ev_lit (evEs_cons (ev_var rfl) evEs_nil)) (c_power n 2 t S (by omega) (by omega))) ((opD_mul' (by decide)).trans (by simp [nD]))
  exact run_d rfl (evSs_ret (ev_ret h)) (take_self _)
theorem c_two (n : Nat) (k : Nat) (S : Sto) (hk : k ≤ 1000) : CN (n + 1) 41 [.d (nD k)] S = .ok (.d (nD (2 ^ k))) S := by
  rw [cn_at (F := d_law_two.fn) rfl]
  obtain ⟨l', S', h1, o, rfl, rfl⟩ := forGo_inv (t := .nm 2) (b := evSs (UN n) f_law_two_1) (fun j l S' => ∃ o, l = [some (.d (nD k)), some (.d (nD (2 ^ j))), o] ∧ S' = S) (xs := rangeD 0 k) (k := 0) (l := [some (.d (nD k)), some (.d (nD 1)), none]) (S := S) ⟨none, by simp, rfl⟩ (fun i x l S' hx hI => by
    obtain ⟨o, rfl, rfl⟩ := hI
    refine ⟨_, _, _, rfl, ?_, some (.d x), rfl, rfl⟩
    have h : opD .add (nD (2 ^ (0 + i))) (nD (2 ^ (0 + i))) = some (nD (2 ^ (0 + i + 1))) := by
      refine (opD_addI _ _).trans ?_
      simp [nD, Nat.pow_succ]
      omega
    exact (evSs_cons (ev_asgD (i := 1) (ev_op (ev_var rfl) (ev_var rfl) h))).trans rfl)
  rw [rng_len, Nat.zero_add] at h1
  exact run_d rfl ((evSs_cons (ev_asgD ev_lit)).trans ((evSs_cons ((ev_for (ev_rng1 (ev_var rfl) (wide_nat (by omega)))).trans h1)).trans (evSs_ret (ev_ret (ev_var rfl))))) (take_self _)
theorem bits_w {α : Type} (f : α → Bool) (l : List α) : biD .all [.lst (l.map fun x => .bl (f x))] = some (.bl (l.all f)) := by
  show (bitsOf (l.map fun x => D.bl (f x))).map (fun bs => D.bl (bs.all id)) = _
  rw [bitsOf_fn']
  simp [List.all_map, Function.comp_def]
/-- rows of symbols judged -/
theorem c_isrow (n : Nat) (t : Nat) (x : D) (hi : Nat) (S : Sto) (ht : t ≤ 4) (hh : hi ≤ 1000) : CN (n + 3) 9 [.d (nD t), .d x, .d (nD hi)] S = .ok (.d (.bl (match x with | .tup ds => decide (ds.length ≤ hi) && ds.all (fun y => isW y 0 ((2 * 2 ^ t : Nat) - 1)) | _ => false))) S := by
  rw [cn_at (F := d_raw_is_row.fn) rfl]
  have hs : evE (UN (n + 2)) (.call 2 "is_sized" (.cons (.var 1) (.cons (.lit (.int 0)) (.cons (.var 2) .nil)))) [some (.d (nD t)), some (.d x), some (.d (nD hi)), none] S = .ok (.d (.bl (isSized x 0 hi))) S :=
    cn_callN (evEs_cons (ev_var rfl) (evEs_cons ev_lit (evEs_cons (ev_var rfl) evEs_nil))) (c_sized (n + 1) x 0 hi S)
  cases x with
  | tup ds =>
    by_cases hl : ds.length ≤ hi
    · have e1 : isSized (.tup ds) 0 hi = true := by simp [isSized, hl]
      rw [e1] at hs
      have hc : evE (UN (n + 2)) x_raw_is_row_1 [some (.d (nD t)), some (.d (.tup ds)), some (.d (nD hi)), none] S = .ok (.d (.lst (ds.map fun y => .bl (isW y 0 ((2 * 2 ^ t : Nat) - 1))))) S := by
        refine ev_comp_map (ds := ds) (fun y => .bl (isW y 0 ((2 * 2 ^ t : Nat) - 1))) rfl (fun y hy => ⟨_, rfl, ?_⟩) (by show ds.length ≤ 16777216; omega)
        exact cn_callN (evEs_cons (ev_var rfl) (evEs_cons ev_lit (evEs_cons (ev_op (cn_call1 (ev_var rfl) (c_symbols n t S ht)) ev_lit (opD_subI _ _)) evEs_nil))) (c_within n y 0 _ S)
      have hb := ev_bi1 (b := .all) hc (bits_w _ ds)
      refine run_d rfl (evSs_ret (ev_ret (ev_and_t hs hb))) (take_self _) |>.trans ?_
      simp [hl]
    · have e1 : isSized (.tup ds) 0 hi = false := by simp [isSized, hl]
      rw [e1] at hs
      refine run_d rfl (evSs_ret (ev_ret (ev_and_f hs))) (take_self _) |>.trans ?_
      simp [hl]
  | _ => exact run_d rfl (evSs_ret (ev_ret (ev_and_f hs))) (take_self _)
end K04
end

section
set_option Elab.async false
set_option linter.all false
set_option maxRecDepth 100000
set_option maxHeartbeats 4000000
namespace K04
open PySem EV
theorem ev_ixT {V : EV.Env} {a b : LE} {l : EV.Loc} {S S1 S2 : Sto} {ds : List D} {k : Nat} {x : D} (h1 : evE V a l S = .ok (.d (.tup ds)) S1) (h2 : evE V b l S1 = .ok (.d (.int (k : Nat))) S2) (h3 : ds[k]? = some x) : evE V (.idx a b) l S = .ok (.d x) S2 := by
  have hl := (List.getElem?_eq_some_iff.mp h3).1
  simp only [evE, h1, h2, R.bind_ok, idxV, dicOf, ditOf, peek, idxD, ixI_nat hl, Option.bind_some, h3, R.opt_some]
theorem ev_ix0 {V : EV.Env} {a : LE} {l : EV.Loc} {S S1 : Sto} {ds : List D} {x : D} (h1 : evE V a l S = .ok (.d (.tup (x :: ds))) S1) : evE V (.idx a (.lit (.int 0))) l S = .ok (.d x) S1 := ev_ixT (k := 0) h1 ev_lit rfl
theorem ev_ix1 {V : EV.Env} {a : LE} {l : EV.Loc} {S S1 : Sto} {ds : List D} {x y : D} (h1 : evE V a l S = .ok (.d (.tup (x :: y :: ds))) S1) : evE V (.idx a (.lit (.int 1))) l S = .ok (.d y) S1 := ev_ixT (k := 1) h1 ev_lit rfl
theorem ev_ix2 {V : EV.Env} {a : LE} {l : EV.Loc} {S S1 : Sto} {ds : List D} {x y z : D} (h1 : evE V a l S = .ok (.d (.tup (x :: y :: z :: ds))) S1) : evE V (.idx a (.lit (.int 2))) l S = .ok (.d z) S1 := ev_ixT (k := 2) h1 ev_lit rfl
theorem ev_lenT {V : EV.Env} {a : LE} {l : EV.Loc} {S S1 : Sto} {ds : List D} (h1 : evE V a l S = .ok (.d (.tup ds)) S1) : evE V (.bi .len (.cons a .nil)) l S = .ok (.d (nD ds.length)) S1 := ev_bi1 h1 rfl
theorem forGo_ret {t : LT} {b : EV.Loc → Sto → RS} {x : D} {xs : List D} {l l' : EV.Loc} {S S1 : Sto} {v : Vl} (h1 : setT t x l = some l') (h2 : b l' S = .ret v S1) : forGo t b (x :: xs) l S = .ret v S1 := by
  simp only [forGo, h1, h2]
theorem len_stD (δ : Stp) : (δ.map rowD).length = δ.length := List.length_map ..
theorem w_nat {x lo : Nat} {k : Nat} (hk : 1 ≤ k) : isW (nD x) 0 ((k : Int) - 1) = decide (x < k) := by
  show (decide ((0 : Int) ≤ (x : Int)) && decide ((x : Int) ≤ (k : Int) - 1)) = _
  by_cases h : x < k
  · rw [decide_eq_true h, decide_eq_true (by omega), decide_eq_true (by omega)]; rfl
  · rw [decide_eq_false h, Bool.and_eq_false_iff]; exact .inr (decide_eq_false (by omega))
theorem sized_row (r : List Nat) (m : Nat) : isSized (rowD r) m m = decide (r.length = m) := by
  show (decide ((m : Int) ≤ ((r.map nD).length : Int)) && decide (((r.map nD).length : Int) ≤ m)) = _
  rw [List.length_map]
  by_cases h : r.length = m
  · rw [decide_eq_true h, decide_eq_true (by omega), decide_eq_true (by omega)]; rfl
  · rw [decide_eq_false h, Bool.and_eq_false_iff]
    by_cases h2 : m ≤ r.length
    · exact .inr (decide_eq_false (by omega))
    · exact .inl (decide_eq_false (by omega))
theorem all_map {α β : Type} (f : α → β) (p : β → Bool) (l : List α) : (l.map f).all p = l.all fun x => p (f x) := by
  rw [List.all_map]; rfl
theorem steps_row (n : Nat) {t m : Nat} {δ : Stp} {r : List Nat} {o : Option Vl} (S : Sto) (h1 : 1 ≤ δ.length) (hr : r.length ≤ 1000) :
    evE (UN (n + 2)) (.or (.not (.call 2 "is_sized" (.cons (.var 3) (.cons (.var 2) (.cons (.var 2) .nil))))) (.not (.bi .all (.cons x_are_steps_1 .nil)))) [some (.d (nD t)), some (.d (stD δ)), some (.d (nD m)), some (.d (rowD r)), o] S =
      .ok (.d (.bl (!(decide (r.length = m) && r.all fun x => decide (x < δ.length))))) S := by
  have hs : evE (UN (n + 2)) (.call 2 "is_sized" (.cons (.var 3) (.cons (.var 2) (.cons (.var 2) .nil)))) [some (.d (nD t)), some (.d (stD δ)), some (.d (nD m)), some (.d (rowD r)), o] S = .ok (.d (.bl (decide (r.length = m)))) S := by
    rw [← sized_row]
    exact cn_callN (evEs_cons (ev_var rfl) (evEs_cons (ev_var rfl) (evEs_cons (ev_var rfl) evEs_nil))) (c_sized (n + 1) _ _ _ S)
  have hc : evE (UN (n + 2)) x_are_steps_1 [some (.d (nD t)), some (.d (stD δ)), some (.d (nD m)), some (.d (rowD r)), o] S = .ok (.d (.lst ((r.map nD).map fun y => .bl (isW y 0 ((δ.length : Int) - 1))))) S := by
    refine ev_comp_map (ds := r.map nD) (fun y => .bl (isW y 0 ((δ.length : Int) - 1))) rfl (fun y hy => ⟨_, rfl, ?_⟩) (by rw [List.length_map]; show r.length ≤ 16777216; omega)
    have e : nD (δ.map rowD).length = .int (δ.length : Int) := by rw [len_stD]; rfl
    exact cn_callN (evEs_cons (ev_var rfl) (evEs_cons ev_lit (evEs_cons (ev_op (ev_lenT (ds := δ.map rowD) (ev_var rfl)) ev_lit (by rw [e]; exact opD_subI _ _)) evEs_nil))) (c_within n y 0 _ S)
  have hb := ev_bi1 (b := .all) hc (bits_w _ _)
  rw [all_map] at hb
  have e2 : (r.all fun x => isW (nD x) 0 ((δ.length : Int) - 1)) = r.all fun x => decide (x < δ.length) := by
    congr 1; funext x; exact w_nat (lo := 0) h1
  rw [e2] at hb
  by_cases h : r.length = m
  · rw [decide_eq_true h] at hs ⊢
    exact ev_or_f (ev_not hs) (ev_not hb)
  · rw [decide_eq_false h] at hs ⊢
    exact ev_or_t (ev_not hs)
theorem ev_globD {V : EV.Env} {x : String} {d : D} {l : EV.Loc} {S : Sto} : evE V (.glob x (.d d)) l S = .ok (.d d) S := by simp only [evE]
theorem sized_st (δ : Stp) : isSized (stD δ) 1 200 = (decide (1 ≤ δ.length) && decide (δ.length ≤ 200)) := by
  show (decide ((1 : Int) ≤ ((δ.map rowD).length : Int)) && decide (((δ.map rowD).length : Int) ≤ 200)) = _
  rw [List.length_map]
  congr 1
  · exact decide_eq_decide.mpr (by omega)
  · exact decide_eq_decide.mpr (by omega)
theorem steps_head (n : Nat) (t : Nat) (x : D) (S : Sto) : evE (UN (n + 2)) (.not (.call 2 "is_sized" (.cons (.var 1) (.cons (.lit (.int 1)) (.cons (.glob "MOST_STATES" (.d (.int 200))) .nil))))) [some (.d (nD t)), some (.d x), none, none, none] S = .ok (.d (.bl (!isSized x 1 200))) S :=
  ev_not (cn_callN (evEs_cons (ev_var rfl) (evEs_cons ev_lit (evEs_cons ev_globD evEs_nil))) (c_sized (n + 1) x 1 200 S))
theorem c_steps (n : Nat) {t : Nat} {δ : Stp} (S : Sto) (ht : t ≤ 4) (h : OkS δ (2 * 2 ^ t)) (hl : δ.length ≤ 200) : CN (n + 3) 10 [.d (nD t), .d (stD δ)] S = .ok (.d (.bl true)) S := by
  rw [cn_at (F := d_are_steps.fn) rfl]
  have h0 := steps_head n t (stD δ) S
  rw [sized_st, decide_eq_true h.pos, decide_eq_true hl] at h0
  have hm : 2 * 2 ^ t ≤ 32 := by
    have : 2 ^ t ≤ 2 ^ 4 := Nat.pow_le_pow_right (by decide) ht
    omega
  obtain ⟨l', S', h1, o, o', rfl, rfl⟩ := forGo_inv (t := .nm 3) (b := evSs (UN (n + 2)) f_are_steps_2) (fun j l S' => ∃ o o', l = [some (.d (nD t)), some (.d (stD δ)), some (.d (nD (2 * 2 ^ t))), o, o'] ∧ S = S') (xs := δ.map rowD) (k := 0) (l := [some (.d (nD t)), some (.d (stD δ)), some (.d (nD (2 * 2 ^ t))), none, none]) (S := S) ⟨none, none, rfl, rfl⟩ (fun i x l S' hx hI => by
    obtain ⟨o, o', rfl, rfl⟩ := hI
    rw [List.getElem?_map, Option.map_eq_some_iff] at hx
    obtain ⟨r, hr, rfl⟩ := hx
    have hr := List.mem_of_getElem? hr
    have q := steps_row n (t := t) (m := 2 * 2 ^ t) (δ := δ) (r := r) (o := o') S h.pos (by rw [h.row r hr]; omega)
    have e : (decide (r.length = 2 * 2 ^ t) && r.all fun x => decide (x < δ.length)) = true := by
      rw [decide_eq_true (h.row r hr), Bool.true_and, List.all_eq_true]
      exact fun x hx => decide_eq_true (h.lt r hr x hx)
    rw [e] at q
    exact ⟨_, _, _, rfl, (evSs_cons ((ev_if_f q).trans rfl)).trans rfl, _, _, rfl, rfl⟩)
  exact run_d rfl ((evSs_cons ((ev_if_f h0).trans rfl)).trans ((evSs_cons (ev_asgD (cn_call1 (ev_var rfl) (c_symbols n t S ht)))).trans ((evSs_cons ((ev_for (ds := δ.map rowD) rfl).trans h1)).trans (evSs_ret (ev_ret ev_lit))))) (take_self _)
/-- what is none -/
theorem c_steps_no (n : Nat) {t : Nat} {x : D} (S : Sto) (h : isSized x 1 200 = false) : CN (n + 3) 10 [.d (nD t), .d x] S = .ok (.d (.bl false)) S := by
  rw [cn_at (F := d_are_steps.fn) rfl]
  have h0 := steps_head n t x S
  rw [h] at h0
  exact run_d rfl (evSs_ret ((ev_if_t h0).trans (evSs_ret (ev_ret ev_lit)))) (take_self _)
theorem c_steps_short (n : Nat) {t : Nat} (S : Sto) (ht : t ≤ 4) : CN (n + 3) 10 [.d (nD t), .d (stD [[0]])] S = .ok (.d (.bl false)) S := by
  rw [cn_at (F := d_are_steps.fn) rfl]
  have h0 := steps_head n t (stD [[0]]) S
  rw [sized_st] at h0
  have hm : 1 ≠ 2 * 2 ^ t := by omega
  have q := steps_row n (t := t) (m := 2 * 2 ^ t) (δ := [[0]]) (r := [0]) (o := none) S (by decide) (by decide)
  have e : (decide ([0].length = 2 * 2 ^ t) && [0].all fun x => decide (x < ([[0]] : Stp).length)) = false := by
    rw [Bool.and_eq_false_iff]; exact .inl (decide_eq_false hm)
  rw [e] at q
  have h1 : forGo (.nm 3) (evSs (UN (n + 2)) f_are_steps_2) [rowD [0]] [some (.d (nD t)), some (.d (stD [[0]])), some (.d (nD (2 * 2 ^ t))), none, none] S = .ret (.d (.bl false)) S := by
    have b : evSs (UN (n + 2)) f_are_steps_2 [some (.d (nD t)), some (.d (stD [[0]])), some (.d (nD (2 * 2 ^ t))), some (.d (rowD [0])), none] S = .ret (.d (.bl false)) S := evSs_ret ((ev_if_t q).trans (evSs_ret (ev_ret ev_lit)))
    exact forGo_ret rfl b
  exact run_d rfl ((evSs_cons ((ev_if_f h0).trans rfl)).trans ((evSs_cons (ev_asgD (i := 2) (l := [some (.d (nD t)), some (.d (stD [[0]])), none, none, none]) (cn_call1 (ev_var rfl) (c_symbols n t S ht)))).trans (evSs_ret ((ev_for (ds := [rowD [0]]) rfl).trans h1)))) (take_self _)
/-! ### lots -/
def risB : List Nat → Bool
  | a :: b :: r => decide (a < b) && risB (b :: r)
  | _ => true
theorem ris_of : ∀ {E : List Nat}, E.Pairwise (· < ·) → risB E = true
  | [], _ => rfl
  | [_], _ => rfl
  | a :: b :: r, h => by
    obtain ⟨h1, h2⟩ := List.pairwise_cons.mp h
    simp only [risB, decide_eq_true (h1 b List.mem_cons_self), ris_of h2, Bool.and_self]
theorem cut1 (ds : List D) : cut ds (some 1) none = ds.drop 1 := by
  simp [cut, loI, hiI, clip]
  cases ds with
  | nil => simp
  | cons d ds => simp
def ltF : D → Bool
  | .tup [.int a, .int b] => decide (a < b)
  | _ => false
theorem ris_zip : ∀ E : List Nat, (zipD (E.map nD) ((E.map nD).drop 1)).all ltF = risB E
  | [] => rfl
  | [_] => rfl
  | a :: b :: r => by
    have ih := ris_zip (b :: r)
    simp only [List.map_cons, List.drop_succ_cons, List.drop_zero] at ih ⊢
    simp only [zipD, List.all_cons, risB, ih]
    congr 1
    simp [ltF, nD]
theorem c_rising (n : Nat) {E : List Nat} (S : Sto) (hl : E.length ≤ 1000) : CN (n + 1) 4 [.d (rowD E)] S = .ok (.d (.bl (risB E))) S := by
  rw [cn_at (F := d_is_rising.fn) rfl]
  have hz : evI (UN n) (.zip (.var 0) (.slc (.var 0) (.yes (.lit (.int 1))) .no)) [some (.d (rowD E)), none, none] S = .ok (.items (zipD (E.map nD) ((E.map nD).drop 1))) S := by
    rw [← cut1]
    simp [evSs, evS, evE, evEs, evO, evC, evI, R.opt, RS.opt, setTV, setT, asBool, isTy, isTyD, cmV, dicOf, ditOf, keyT, peek, peeks, cmD, biV, biW, rprV, biD, idxV, idxD, slcV, slcD, mtV, mtApp, mtPure, mtTyp, mtD, opD, take, takes, keepS, runF, noX, rowD, seqD]
  have hc : evE (UN n) x_is_rising_1 [some (.d (rowD E)), none, none] S = .ok (.d (.lst ((zipD (E.map nD) ((E.map nD).drop 1)).map fun y => .bl (ltF y)))) S := by
    refine ev_comp_map (ds := zipD (E.map nD) ((E.map nD).drop 1)) (fun y => .bl (ltF y)) hz (fun y hy => ?_) ?_
    · obtain ⟨i, hi⟩ := List.mem_iff_getElem?.mp hy
      obtain ⟨a, b, h1, h2, rfl⟩ := zipD_at _ _ _ _ hi
      rw [List.getElem?_map, Option.map_eq_some_iff] at h1
      obtain ⟨a, _, rfl⟩ := h1
      rw [← List.map_drop, List.getElem?_map, Option.map_eq_some_iff] at h2
      obtain ⟨b, _, rfl⟩ := h2
      exact ⟨_, rfl, ev_cmp (ev_var rfl) (ev_var rfl) rfl⟩
    · rw [zipD_len]
      exact Nat.le_trans (Nat.min_le_left _ _) (by rw [List.length_map]; show E.length ≤ 16777216; omega)
  have hb := ev_bi1 (b := .all) hc (bits_w _ _)
  rw [ris_zip] at hb
  exact run_d rfl (evSs_ret (ev_ret hb)) (take_self _)
theorem c_lot (n : Nat) {E : List Nat} {k : Nat} (S : Sto) (hl : E.length ≤ 1000) (hk : 1 ≤ k) : CN (n + 4) 5 [.d (rowD E), .d (nD k)] S = .ok (.d (.bl ((E.all fun x => decide (x < k)) && risB E))) S := by
  rw [cn_at (F := d_is_lot.fn) rfl]
  have hw : CN (n + 3) 3 [.d (rowD E), .d (.int 0), .d (.int ((k : Int) - 1))] S = .ok (.d (.bl (E.all fun x => decide (x < k)))) S := by
    rw [cn_at (F := d_are_within.fn) rfl]
    have hc : evE (UN (n + 2)) x_are_within_1 [some (.d (rowD E)), some (.d (.int 0)), some (.d (.int ((k : Int) - 1))), none] S = .ok (.d (.lst ((E.map nD).map fun y => .bl (isW y 0 ((k : Int) - 1))))) S :=
      ev_comp_map (ds := E.map nD) (fun y => .bl (isW y 0 ((k : Int) - 1))) rfl (fun y hy => ⟨_, rfl, cn_callN (evEs_cons (ev_var rfl) (evEs_cons (ev_var rfl) (evEs_cons (ev_var rfl) evEs_nil))) (c_within n y 0 _ S)⟩) (by rw [List.length_map]; show E.length ≤ 16777216; omega)
    have hb := ev_bi1 (b := .all) hc (bits_w _ _)
    rw [all_map] at hb
    have e2 : (E.all fun x => isW (nD x) 0 ((k : Int) - 1)) = E.all fun x => decide (x < k) := by
      congr 1; funext x; exact w_nat (lo := 0) hk
    rw [e2] at hb
    have ht : evE (UN (n + 2)) (.isi (.var 0) .tup) [some (.d (rowD E)), some (.d (.int 0)), some (.d (.int ((k : Int) - 1))), none] S = .ok (.d (.bl true)) S := by simp [evSs, evS, evE, evEs, evO, evC, evI, R.opt, RS.opt, setTV, setT, asBool, isTy, isTyD, cmV, dicOf, ditOf, keyT, peek, peeks, cmD, biV, biW, rprV, biD, idxV, idxD, slcV, slcD, mtV, mtApp, mtPure, mtTyp, mtD, opD, take, takes, keepS, runF, noX, rowD]
    exact run_d rfl (evSs_ret (ev_ret (ev_and_t ht hb))) (take_self _)
  have h1 : evE (UN (n + 3)) (.call 3 "are_within" (.cons (.var 0) (.cons (.lit (.int 0)) (.cons (.op .sub (.var 1) (.lit (.int 1))) .nil)))) [some (.d (rowD E)), some (.d (nD k))] S = .ok (.d (.bl (E.all fun x => decide (x < k)))) S :=
    cn_callN (evEs_cons (ev_var rfl) (evEs_cons ev_lit (evEs_cons (ev_op (ev_var rfl) ev_lit (opD_subI _ _)) evEs_nil))) hw
  cases h : (E.all fun x => decide (x < k)) with
  | true =>
    rw [h] at h1
    exact run_d rfl (evSs_ret (ev_ret (ev_and_t h1 (cn_call1 (ev_var rfl) (c_rising (n + 2) S hl))))) (take_self _)
  | false =>
    rw [h] at h1
    exact run_d rfl (evSs_ret (ev_ret (ev_and_f h1))) (take_self _)
end K04
end

section
set_option Elab.async false
set_option linter.all false
set_option maxRecDepth 100000
set_option maxHeartbeats 4000000
namespace K04
open PySem EV
theorem eq_nD (a b : Nat) : eqD (nD a) (nD b) = decide (a = b) := by
  simp only [nD, eqD]
  by_cases h : a = b
  · subst h; simp
  · rw [decide_eq_false h, beq_eq_false_iff_ne]; omega
theorem in_row (a : Nat) (E : List Nat) : inD (nD a) (E.map nD) = decide (a ∈ E) := by
  unfold inD
  rw [List.any_map]
  rw [Bool.eq_iff_iff, List.any_eq_true, decide_eq_true_iff]
  constructor
  · rintro ⟨x, hx, h⟩
    simp only [Function.comp, eq_nD, decide_eq_true_iff] at h
    rw [← h]; exact hx
  · intro h
    exact ⟨a, h, by simp [Function.comp, eq_nD]⟩
theorem isin_row (a : Nat) (E : List Nat) : cmD .isin (nD a) (rowD E) = some (decide (a ∈ E)) := by
  rw [← in_row]; rfl
theorem notin_row (a : Nat) (E : List Nat) : cmD .notin (nD a) (rowD E) = some (!decide (a ∈ E)) := by
  rw [← in_row]; rfl
theorem ev_ex {V : EV.Env} {e : LE} {l : EV.Loc} {S S1 : Sto} {v : Vl} (h : evE V e l S = .ok v S1) : evS V (.ex e) l S = .nx l S1 := by simp only [evS, h, R.st_ok]
theorem ev_exX {V : EV.Env} {e : LE} {l : EV.Loc} {S S1 : Sto} {k : Nat} {xs : List D} (h : evE V e l S = .exc k xs S1) : evS V (.ex e) l S = .exc k xs l S1 := by simp only [evS, h]; rfl
theorem ev_raise {V : EV.Env} {k : Nat} {x : String} {l : EV.Loc} {S : Sto} : evS V (.raise k x .nil) l S = .exc k [] l S := by simp only [evS, evEs, R.st_ok, takes, RS.opt_some]
theorem evSs_exc {V : EV.Env} {s : LS} {ss : LSs} {l l1 : EV.Loc} {S S1 : Sto} {k : Nat} {xs : List D} (h : evS V s l S = .exc k xs l1 S1) : evSs V (.cons s ss) l S = .exc k xs l1 S1 := by simp only [evSs, h]
theorem run_exc {V : EV.Env} {F : Fn} {vs : List Vl} {S S' : Sto} {k : Nat} {xs : List D} {l1 : EV.Loc} (h0 : vs.length = F.np) (h : evSs V F.body (vs.map some ++ List.replicate (F.nl - F.np) none) S = .exc k xs l1 S') (h1 : S'.take S.length = S) : runF V F vs S = .exc k xs S := by
  unfold runF
  rw [if_pos h0, h]
  simp only [h1]
theorem run_nx {V : EV.Env} {F : Fn} {vs : List Vl} {S S' : Sto} {l1 : EV.Loc} (h0 : vs.length = F.np) (h : evSs V F.body (vs.map some ++ List.replicate (F.nl - F.np) none) S = .nx l1 S') (h1 : S'.take S.length = S) : runF V F vs S = .ok (.d .non) S := by
  unfold runF
  rw [if_pos h0, h]
  simp only [h1]
/-! ### is_machine -/
theorem mach_head (n : Nat) (x y z : D) (S : Sto) : evE (UN (n + 2)) (.or (.not (.call 2 "is_sized" (.cons (.var 0) (.cons (.lit (.int 3)) (.cons (.lit (.int 3)) .nil))))) (.not (.call 1 "is_within" (.cons (.idx (.var 0) (.lit (.int 0))) (.cons (.lit (.int 0)) (.cons (.glob "MOST_TRACKS" (.d (.int 4))) .nil)))))) [some (.d (.tup [x, y, z]))] S = .ok (.d (.bl (!isW x 0 4))) S := by
  have h1 : evE (UN (n + 2)) (.call 2 "is_sized" (.cons (.var 0) (.cons (.lit (.int 3)) (.cons (.lit (.int 3)) .nil)))) [some (.d (.tup [x, y, z]))] S = .ok (.d (.bl true)) S :=
    cn_callN (evEs_cons (ev_var rfl) (evEs_cons ev_lit (evEs_cons ev_lit evEs_nil))) (c_sized (n + 1) (.tup [x, y, z]) 3 3 S)
  exact ev_or_f (ev_not h1) (ev_not (cn_callN (evEs_cons (ev_ix0 (ev_var rfl)) (evEs_cons ev_lit (evEs_cons ev_globD evEs_nil))) (c_within n x 0 4 S)))
theorem c_machine3 (n : Nat) {x y z : D} {r s : Bool} (S : Sto) (hx : isW x 0 4 = true) (hy : CN (n + 5) 10 [.d x, .d y] S = .ok (.d (.bl r)) S) (hl : ∃ ds, y = .tup ds ∨ r = false) (hz : ∀ ds, y = .tup ds → r = true → CN (n + 5) 5 [.d z, .d (nD ds.length)] S = .ok (.d (.bl s)) S) :
    CN (n + 6) 11 [.d (.tup [x, y, z])] S = .ok (.d (.bl (r && s))) S := by
  rw [cn_at (F := d_is_machine.fn) rfl]
  have h0 := mach_head (n + 3) x y z S
  rw [hx] at h0
  have h1 : evE (UN (n + 5)) (.call 10 "are_steps" (.cons (.idx (.var 0) (.lit (.int 0))) (.cons (.idx (.var 0) (.lit (.int 1))) .nil))) [some (.d (.tup [x, y, z]))] S = .ok (.d (.bl r)) S :=
    cn_callN (evEs_cons (ev_ix0 (ev_var rfl)) (evEs_cons (ev_ix1 (ev_var rfl)) evEs_nil)) hy
  cases r with
  | false => exact run_d rfl ((evSs_cons ((ev_if_f h0).trans rfl)).trans (evSs_ret (ev_ret (ev_and_f h1)))) (take_self _)
  | true =>
    obtain ⟨ds, hl⟩ := hl
    rcases hl with rfl | hl
    · exact run_d rfl ((evSs_cons ((ev_if_f h0).trans rfl)).trans (evSs_ret (ev_ret (ev_and_t h1 (cn_callN (evEs_cons (ev_ix2 (ev_var rfl)) (evEs_cons (ev_lenT (ev_ix1 (ev_var rfl))) evEs_nil)) (hz ds rfl rfl)))))) (take_self _)
    · cases hl
theorem c_machine_t (n : Nat) {x y z : D} (S : Sto) (hx : isW x 0 4 = false) : CN (n + 6) 11 [.d (.tup [x, y, z])] S = .ok (.d (.bl false)) S := by
  rw [cn_at (F := d_is_machine.fn) rfl]
  have h0 := mach_head (n + 3) x y z S
  rw [hx] at h0
  exact run_d rfl (evSs_ret ((ev_if_t h0).trans (evSs_ret (ev_ret ev_lit)))) (take_self _)
theorem c_machine_s (n : Nat) {x : D} (S : Sto) (hx : isSized x 3 3 = false) : CN (n + 6) 11 [.d x] S = .ok (.d (.bl false)) S := by
  rw [cn_at (F := d_is_machine.fn) rfl]
  have h1 : evE (UN (n + 5)) (.call 2 "is_sized" (.cons (.var 0) (.cons (.lit (.int 3)) (.cons (.lit (.int 3)) .nil)))) [some (.d x)] S = .ok (.d (.bl false)) S := by
    rw [← hx]
    exact cn_callN (evEs_cons (ev_var rfl) (evEs_cons ev_lit (evEs_cons ev_lit evEs_nil))) (c_sized (n + 4) x 3 3 S)
  exact run_d rfl (evSs_ret ((ev_if_t (ev_or_t (ev_not h1))).trans (evSs_ret (ev_ret ev_lit)))) (take_self _)
theorem w_tr {t : Nat} (h : t ≤ 4) : isW (nD t) 0 4 = true := by
  show (decide ((0 : Int) ≤ (t : Int)) && decide ((t : Int) ≤ 4)) = true
  rw [decide_eq_true (by omega), decide_eq_true (by omega)]; rfl
theorem c_machineE (n : Nat) {t : Nat} {δ : Stp} {E : List Nat} (S : Sto) (ht : t ≤ 4) (h : OkS δ (2 * 2 ^ t)) (hl : δ.length ≤ 200) (hE : E.length ≤ 1000) :
    CN (n + 6) 11 [.d (mD t δ E)] S = .ok (.d (.bl ((E.all fun x => decide (x < δ.length)) && risB E))) S := by
  have := c_machine3 (x := nD t) (y := stD δ) (z := rowD E) (r := true) (s := (E.all fun x => decide (x < δ.length)) && risB E) n S (w_tr ht) (c_steps (n + 2) S ht h hl) ⟨_, .inl rfl⟩ fun ds e _ => by
    cases e
    rw [len_stD]
    exact c_lot (n + 1) S hE h.pos
  rwa [Bool.true_and] at this
theorem c_machine (n : Nat) {t : Nat} {δ : Stp} {E : List Nat} (S : Sto) (h : Mch t δ E) : CN (n + 6) 11 [.d (mD t δ E)] S = .ok (.d (.bl true)) S := by
  have e : ((E.all fun x => decide (x < δ.length)) && risB E) = true := by
    rw [ris_of h.rise, Bool.and_true, List.all_eq_true]
    exact fun x hx => decide_eq_true (h.en x hx)
  have := h.sz
  have := h.elen
  have := h.tr
  rw [c_machineE n S (by omega) h.ok (by omega) (by omega), e]
theorem c_chk (n : Nat) {x : D} {b : Bool} {S : Sto} (h : CN n 11 [.d x] S = .ok (.d (.bl b)) S) : CN (n + 1) 12 [.d x] S = if b then .ok (.d .non) S else .exc 3 [] S := by
  rw [cn_at (F := d_check_machine.fn) rfl]
  simp [d_check_machine, evSs, evS, evE, evEs, evO, evC, evI, R.opt, RS.opt, setTV, setT, asBool, isTy, isTyD, cmV, dicOf, ditOf, keyT, peek, peeks, cmD, biV, biW, rprV, biD, idxV, idxD, slcV, slcD, mtV, mtApp, mtPure, mtTyp, mtD, opD, take, takes, keepS, runF, noX, h]
  cases b <;> simp [evSs, evS, evE, evEs, evO, evC, evI, R.opt, RS.opt, setTV, setT, asBool, isTy, isTyD, cmV, dicOf, ditOf, keyT, peek, peeks, cmD, biV, biW, rprV, biD, idxV, idxD, slcV, slcD, mtV, mtApp, mtPure, mtTyp, mtD, opD, take, takes, keepS, runF, noX]
theorem c_chkm (n : Nat) {t : Nat} {δ : Stp} {E : List Nat} (S : Sto) (h : Mch t δ E) : CN (n + 7) 12 [.d (mD t δ E)] S = .ok (.d .non) S := (c_chk (n + 6) (c_machine n S h)).trans rfl
/-! ### going -/
theorem ev_mstep {V : EV.Env} {t : Nat} {δ : Stp} {E : List Nat} {m s a : Nat} {o : Option Vl} {S : Sto} (h : OkS δ m) (hs : s < δ.length) (ha : a < m) :
    evE V (.idx (.idx (.idx (.var 0) (.lit (.int 1))) (.var 2)) (.var 3)) [some (.d (mD t δ E)), o, some (.d (nD s)), some (.d (nD a))] S = .ok (.d (nD (stp δ s a))) S := by
  obtain ⟨h1, h2⟩ := row_at hs
  refine ev_ixT (ds := (δ.getD s []).map nD) (k := a) (ev_ixT (ds := δ.map rowD) (k := s) (ev_ix1 (ev_var rfl)) (ev_var rfl) ?_) (ev_var rfl) ?_
  · rw [List.getElem?_map, h1]; rfl
  · rw [List.getElem?_map, (h.stp_at hs ha).1]; rfl
theorem go_body {V : EV.Env} {t : Nat} {δ : Stp} {E : List Nat} {m : Nat} {w : List Nat} {S : Sto} (h : OkS δ m) (hw : ∀ a ∈ w, a < m) :
    ∃ o, forGo (.nm 3) (evSs V f_raw_after_1) (w.map nD) [some (.d (mD t δ E)), some (.d (rowD w)), some (.d (nD 0)), none] S = .nx [some (.d (mD t δ E)), some (.d (rowD w)), some (.d (nD (aft δ 0 w))), o] S := by
  obtain ⟨l', S', h1, o, rfl, rfl⟩ := forGo_inv (t := .nm 3) (b := evSs V f_raw_after_1) (fun j l S' => ∃ o, l = [some (.d (mD t δ E)), some (.d (rowD w)), some (.d (nD (aft δ 0 (w.take j)))), o] ∧ S = S') (xs := w.map nD) (k := 0) (l := [some (.d (mD t δ E)), some (.d (rowD w)), some (.d (nD 0)), none]) (S := S) ⟨none, rfl, rfl⟩ (fun i x l S' hx hI => by
    obtain ⟨o, rfl, rfl⟩ := hI
    rw [List.getElem?_map, Option.map_eq_some_iff] at hx
    obtain ⟨a, ha, rfl⟩ := hx
    have hm := List.mem_of_getElem? ha
    have e : aft δ 0 (w.take (0 + i + 1)) = stp δ (aft δ 0 (w.take (0 + i))) a := by
      rw [Nat.zero_add, List.take_succ, ha]
      exact aft_snoc 0 _ _ _
    rw [e]
    exact ⟨_, _, _, rfl, (evSs_cons (ev_asgD (i := 2) (ev_mstep h (h.aft_lt h.pos fun b hb => hw b (List.mem_of_mem_take hb)) (hw a hm)))).trans rfl, _, rfl, rfl⟩)
  refine ⟨o, ?_⟩
  rw [h1, List.length_map, Nat.zero_add, List.take_length]
theorem c_after (n f : Nat) (hf : T.fs[f]? = some d_raw_after.fn) {t : Nat} {δ : Stp} {E : List Nat} {m : Nat} {w : List Nat} (S : Sto) (h : OkS δ m) (hw : ∀ a ∈ w, a < m) : CN (n + 1) f [.d (mD t δ E), .d (rowD w)] S = .ok (.d (nD (aft δ 0 w))) S := by
  rw [cn_at (F := d_raw_after.fn) hf]
  obtain ⟨o, h1⟩ := go_body (V := UN n) (t := t) (E := E) (S := S) h hw
  exact run_d rfl ((evSs_cons (ev_asgD ev_lit)).trans ((evSs_cons ((ev_for (ds := w.map nD) rfl).trans h1)).trans (evSs_ret (ev_ret (ev_var rfl))))) (take_self _)
theorem c_after13 (n : Nat) {t : Nat} {δ : Stp} {E : List Nat} {m : Nat} {w : List Nat} (S : Sto) (h : OkS δ m) (hw : ∀ a ∈ w, a < m) : CN (n + 1) 13 [.d (mD t δ E), .d (rowD w)] S = .ok (.d (nD (aft δ 0 w))) S := c_after n 13 rfl S h hw
theorem c_after43 (n : Nat) {t : Nat} {δ : Stp} {E : List Nat} {m : Nat} {w : List Nat} (S : Sto) (h : OkS δ m) (hw : ∀ a ∈ w, a < m) : CN (n + 1) 43 [.d (mD t δ E), .d (rowD w)] S = .ok (.d (nD (aft δ 0 w))) S := c_after n 43 rfl S h hw
theorem c_takes16 (n : Nat) {t : Nat} {δ : Stp} {E : List Nat} {m : Nat} {w : List Nat} (S : Sto) (h : OkS δ m) (hw : ∀ a ∈ w, a < m) : CN (n + 2) 16 [.d (mD t δ E), .d (rowD w)] S = .ok (.d (.bl (decide (aft δ 0 w ∈ E)))) S := by
  rw [cn_at (F := d_raw_takes.fn) rfl]
  exact run_d rfl (evSs_ret (ev_ret (ev_cmp (cn_callN (evEs_cons (ev_var rfl) (evEs_cons (ev_var rfl) evEs_nil)) (c_after13 n S h hw)) (ev_ix2 (ev_var rfl)) (isin_row _ _)))) (take_self _)
theorem c_takes44 (n : Nat) {t : Nat} {δ : Stp} {E : List Nat} {m : Nat} {w : List Nat} (S : Sto) (h : OkS δ m) (hw : ∀ a ∈ w, a < m) : CN (n + 2) 44 [.d (mD t δ E), .d (rowD w)] S = .ok (.d (.bl (decide (aft δ 0 w ∈ E)))) S := by
  rw [cn_at (F := d_law_takes.fn) rfl]
  exact run_d rfl (evSs_ret (ev_ret (ev_cmp (cn_callN (evEs_cons (ev_var rfl) (evEs_cons (ev_var rfl) evEs_nil)) (c_after43 n S h hw)) (ev_ix2 (ev_var rfl)) (isin_row _ _)))) (take_self _)
/-! ### reading -/
def isRow (t : Nat) : D → Bool
  | .tup ds => decide (ds.length ≤ 40) && ds.all (fun y => isW y 0 ((2 * 2 ^ t : Nat) - 1))
  | _ => false
theorem isRow_row {t : Nat} {w : List Nat} (hl : w.length ≤ 40) (hw : ∀ a ∈ w, a < 2 * 2 ^ t) : isRow t (rowD w) = true := by
  show (decide ((w.map nD).length ≤ 40) && (w.map nD).all _) = true
  rw [List.length_map, decide_eq_true hl, all_map, Bool.true_and, List.all_eq_true]
  intro x hx
  rw [w_nat (lo := 0) (by have : 0 < 2 ^ t := Nat.pow_pos (by decide); omega)]
  exact decide_eq_true (hw x hx)
theorem c_chkread (n : Nat) {t : Nat} {δ : Stp} {E : List Nat} (x : D) (S : Sto) (h : Mch t δ E) : CN (n + 8) 14 [.d (mD t δ E), .d x] S = if isRow t x then .ok (.d .non) S else .exc 2 [] S := by
  rw [cn_at (F := d_check_read.fn) rfl]
  have ht := h.tr
  have h1 : evE (UN (n + 7)) (.call 12 "check_machine" (.cons (.var 0) .nil)) [some (.d (mD t δ E)), some (.d x)] S = .ok (.d .non) S := cn_call1 (ev_var rfl) (c_chkm n S h)
  have h2 : evE (UN (n + 7)) (.call 9 "raw_is_row" (.cons (.idx (.var 0) (.lit (.int 0))) (.cons (.var 1) (.cons (.glob "MOST_ROW" (.d (.int 40))) .nil)))) [some (.d (mD t δ E)), some (.d x)] S = .ok (.d (.bl (isRow t x))) S :=
    cn_callN (evEs_cons (ev_ix0 (ev_var rfl)) (evEs_cons (ev_var rfl) (evEs_cons ev_globD evEs_nil))) (c_isrow (n + 4) t x 40 S (by omega) (by omega))
  cases hr : isRow t x with
  | true =>
    rw [hr] at h2
    exact run_nx rfl ((evSs_cons (ev_ex h1)).trans ((evSs_cons ((ev_if_f (ev_not h2)).trans rfl)).trans rfl)) (take_self _)
  | false =>
    rw [hr] at h2
    exact run_exc rfl ((evSs_cons (ev_ex h1)).trans (evSs_exc ((ev_if_t (ev_not h2)).trans (evSs_exc ev_raise)))) (take_self _)
theorem c_chkread_m (n : Nat) {x y : D} (S : Sto) (h : CN (n + 6) 11 [.d x] S = .ok (.d (.bl false)) S) : CN (n + 8) 14 [.d x, .d y] S = .exc 3 [] S := by
  rw [cn_at (F := d_check_read.fn) rfl]
  have h1 : evE (UN (n + 7)) (.call 12 "check_machine" (.cons (.var 0) .nil)) [some (.d x), some (.d y)] S = .exc 3 [] S := cn_call1 (ev_var rfl) ((c_chk (n + 6) h).trans rfl)
  exact run_exc rfl (evSs_exc (ev_exX h1)) (take_self _)
theorem c_state_after (n : Nat) {t : Nat} {δ : Stp} {E w : List Nat} (S : Sto) (h : Mch t δ E) (hl : w.length ≤ 40) (hw : ∀ a ∈ w, a < 2 * 2 ^ t) : CN (n + 9) 15 [.d (mD t δ E), .d (rowD w)] S = .ok (.d (nD (aft δ 0 w))) S := by
  rw [cn_at (F := d_state_after.fn) rfl]
  have h1 := (c_chkread n (rowD w) S h).trans (if_pos (isRow_row hl hw))
  exact run_d rfl ((evSs_cons (ev_ex (cn_callN (evEs_cons (ev_var rfl) (evEs_cons (ev_var rfl) evEs_nil)) h1))).trans (evSs_ret (ev_ret (cn_callN (evEs_cons (ev_var rfl) (evEs_cons (ev_var rfl) evEs_nil)) (c_after13 (n + 7) S h.ok hw))))) (take_self _)
theorem c_takes17 (n : Nat) {t : Nat} {δ : Stp} {E w : List Nat} (S : Sto) (h : Mch t δ E) (hl : w.length ≤ 40) (hw : ∀ a ∈ w, a < 2 * 2 ^ t) : CN (n + 9) 17 [.d (mD t δ E), .d (rowD w)] S = .ok (.d (.bl (decide (aft δ 0 w ∈ E)))) S := by
  rw [cn_at (F := d_takes.fn) rfl]
  have h1 := (c_chkread n (rowD w) S h).trans (if_pos (isRow_row hl hw))
  exact run_d rfl ((evSs_cons (ev_ex (cn_callN (evEs_cons (ev_var rfl) (evEs_cons (ev_var rfl) evEs_nil)) h1))).trans (evSs_ret (ev_ret (cn_callN (evEs_cons (ev_var rfl) (evEs_cons (ev_var rfl) evEs_nil)) (c_takes16 (n + 6) S h.ok hw))))) (take_self _)
theorem c_after_x (n f : Nat) (F : Fn) (hF : T.fs[f]? = some F) (k : Nat) {x y : D} (S : Sto) (hb : ∃ ss, F = ⟨2, 2, .cons (.ex (.call 14 "check_read" (.cons (.var 0) (.cons (.var 1) .nil)))) ss⟩) (h : CN (n + 8) 14 [.d x, .d y] S = .exc k [] S) : CN (n + 9) f [.d x, .d y] S = .exc k [] S := by
  obtain ⟨ss, rfl⟩ := hb
  rw [cn_at hF]
  exact run_exc rfl (evSs_exc (ev_exX (cn_callN (evEs_cons (ev_var rfl) (evEs_cons (ev_var rfl) evEs_nil)) h))) (take_self _)
end K04
end

section
set_option Elab.async false
set_option linter.all false
set_option maxRecDepth 100000
set_option maxHeartbeats 4000000
namespace K04
open PySem EV
/-! ### two cells at the end of a store -/
theorem g2a (S : Sto) (c1 c2 : Cell) : ((S ++ [c1, c2] : List Cell))[S.length]? = some c1 := by simp
theorem g2b (S : Sto) (c1 c2 : Cell) : ((S ++ [c1, c2] : List Cell))[S.length + 1]? = some c2 := by simp
theorem s2a (S : Sto) (c1 c2 d : Cell) : (S ++ [c1, c2] : List Cell).set S.length d = S ++ [d, c2] := by simp
theorem s2b (S : Sto) (c1 c2 d : Cell) : (S ++ [c1, c2] : List Cell).set (S.length + 1) d = S ++ [c1, d] := by
  rw [List.set_append_right _ _ (by omega)]
  simp
theorem t2 (S : Sto) (c1 c2 : Cell) : (S ++ [c1, c2] : List Cell).take S.length = S := by simp
/-! ### the table of what is come to -/
def fD (f : List (Nat × List Nat)) : List (Ky × D) := f.map fun p => (.i (p.1 : Int), rowD p.2)
theorem fD_val (f : List (Nat × List Nat)) (s : Nat) : valA (fD f) (.i (s : Int)) = (valA f s).map rowD := by
  unfold valA fD
  rw [List.find?_map]
  have e : ((fun kv : Ky × D => decide (kv.1 = Ky.i (s : Int))) ∘ fun p : Nat × List Nat => (Ky.i (p.1 : Int), rowD p.2)) = fun p => decide (p.1 = s) := by
    funext p
    simp only [Function.comp]
    exact decide_eq_decide.mpr ⟨fun h => by injection h with h; omega, fun h => by rw [h]⟩
  rw [e]
  cases f.find? fun p => decide (p.1 = s) <;> rfl
theorem fD_put {f : List (Nat × List Nat)} {t : Nat} {r : List Nat} (h : t ∉ f.map Prod.fst) : putA (fD f) (.i (t : Int)) (rowD r) = fD (f ++ [(t, r)]) := by
  have h' : (Ky.i (t : Int)) ∉ (fD f).map Prod.fst := by
    unfold fD
    rw [List.map_map, List.mem_map]
    rintro ⟨p, hp, e⟩
    have e2 : p.1 = t := by
      have : Ky.i (p.1 : Int) = Ky.i (t : Int) := e
      injection this with this
      omega
    exact h (by rw [← e2]; exact List.mem_map_of_mem hp)
  rw [putA_new h']
  simp [fD]
theorem fD_has (f : List (Nat × List Nat)) (t : Nat) : (valA (fD f) (.i (t : Int))).isSome = decide (t ∈ f.map Prod.fst) := by
  rw [fD_val, Option.isSome_map]
  by_cases h : t ∈ f.map Prod.fst
  · obtain ⟨v, e⟩ := valA_some h
    rw [e, decide_eq_true h]; rfl
  · rw [valA_none fun p hp e => h (by rw [← e]; exact List.mem_map_of_mem hp), decide_eq_false h]; rfl
theorem valA_app {κ β : Type} [DecidableEq κ] {f g : List (κ × β)} {s : κ} {v : β} (h : valA f s = some v) : valA (f ++ g) s = some v := by
  unfold valA at h ⊢
  rw [List.find?_append]
  cases e : f.find? fun kv => decide (kv.1 = s) with
  | none => rw [e] at h; cases h
  | some p => rw [e] at h; exact h
def qD (d : Nat) (f : List (Nat × List Nat)) : List D := (f.drop d).map fun p => nD p.1
theorem qD_app {d : Nat} {f : List (Nat × List Nat)} (h : d ≤ f.length) (p : Nat × List Nat) : qD d (f ++ [p]) = qD d f ++ [nD p.1] := by
  unfold qD
  rw [List.drop_append_of_le_length h, List.map_append]
  rfl
def stF (S : Sto) (d : Nat) (f : List (Nat × List Nat)) : Sto := S ++ [.dic (fD f), .lst (qD d f)]
/-- the inner loop, by its body -/
theorem inner {b : EV.Loc → Sto → RS} {L : Option Vl → Option Vl → EV.Loc} {S : Sto} {d s : Nat} {pre : List Nat} (hset : ∀ x y o5 o6, setT (.tp (.nm 5) (.nm 6)) (.tup [x, y]) (L o5 o6) = some (L (some (.d x)) (some (.d y))))
    (hb : ∀ (k t : Nat) (f : List (Nat × List Nat)), valA f s = some pre → d ≤ f.length → f.length < 1000 → b (L (some (.d (nD k))) (some (.d (nD t)))) (stF S d f) = .nx (L (some (.d (nD k))) (some (.d (nD t)))) (stF S d (if t ∈ f.map Prod.fst then f else f ++ [(t, pre ++ [k])]))) :
    ∀ (r : List Nat) (k : Nat) (f : List (Nat × List Nat)) (o5 o6 : Option Vl), valA f s = some pre → d ≤ f.length → f.length + r.length < 1000 → ∃ o5' o6', forGo (.tp (.nm 5) (.nm 6)) b (enmD (r.map nD) k) (L o5 o6) (stF S d f) = .nx (L o5' o6') (stF S d (expd pre r k f))
  | [], k, f, o5, o6, _, _, _ => ⟨o5, o6, rfl⟩
  | t :: r, k, f, o5, o6, h1, h2, h3 => by
    simp only [List.length_cons] at h3
    have hk := hb k t f h1 h2 (by omega)
    by_cases e : t ∈ f.map Prod.fst
    · rw [if_pos e] at hk
      obtain ⟨o5', o6', ih⟩ := inner hset hb r (k + 1) f (some (.d (nD k))) (some (.d (nD t))) h1 h2 (by omega)
      refine ⟨o5', o6', ?_⟩
      have e2 : expd pre (t :: r) k f = expd pre r (k + 1) f := by show expd pre r (k + 1) (if t ∈ f.map Prod.fst then f else _) = _; rw [if_pos e]
      rw [e2, ← ih]
      simp only [List.map_cons, enmD, forGo, hset]
      show (match b (L (some (.d (nD k))) (some (.d (nD t)))) (stF S d f) with
        | .nx l2 S2 => forGo _ b _ l2 S2
        | .ct l2 S2 => forGo _ b _ l2 S2
        | .bk l2 S2 => .nx l2 S2
        | r => r) = _
      rw [hk]
    · rw [if_neg e] at hk
      obtain ⟨o5', o6', ih⟩ := inner hset hb r (k + 1) (f ++ [(t, pre ++ [k])]) (some (.d (nD k))) (some (.d (nD t))) (valA_app h1) (by simp; omega) (by simp; omega)
      refine ⟨o5', o6', ?_⟩
      have e2 : expd pre (t :: r) k f = expd pre r (k + 1) (f ++ [(t, pre ++ [k])]) := by show expd pre r (k + 1) (if t ∈ f.map Prod.fst then f else _) = _; rw [if_neg e]
      rw [e2, ← ih]
      simp only [List.map_cons, enmD, forGo, hset]
      show (match b (L (some (.d (nD k))) (some (.d (nD t)))) (stF S d f) with
        | .nx l2 S2 => forGo _ b _ l2 S2
        | .ct l2 S2 => forGo _ b _ l2 S2
        | .bk l2 S2 => .nx l2 S2
        | r => r) = _
      rw [hk]
theorem kyOf_nD (t : Nat) : kyOf (nD t) = some (.i (t : Int)) := rfl
/-- if there not in found: .. -/
theorem notin_dic {V : EV.Env} {i j a : Nat} {l : EV.Loc} {S : Sto} {t : Nat} {f : List (Nat × List Nat)} (hi : l[i]? = some (some (.d (nD t)))) (hj : l[j]? = some (some (.ref a))) (hS : (S : List Cell)[a]? = some (.dic (fD f))) : evE V (.cmp .notin (.var i) (.var j)) l S = .ok (.d (.bl (!decide (t ∈ f.map Prod.fst)))) S := by
  simp only [evE, hi, hj, R.bind_ok, cmV, dicOf, hS, peek, Option.bind_some, kyOf_nD, fD_has, R.opt_some]
theorem idx_dic {V : EV.Env} {i j a : Nat} {l : EV.Loc} {S : Sto} {s : Nat} {r : List Nat} {f : List (Nat × List Nat)} (hi : l[i]? = some (some (.ref a))) (hj : l[j]? = some (some (.d (nD s)))) (hS : (S : List Cell)[a]? = some (.dic (fD f))) (hv : valA f s = some r) : evE V (.idx (.var i) (.var j)) l S = .ok (.d (rowD r)) S := by
  simp only [evE, hi, hj, R.bind_ok, idxV, dicOf, hS, peek, Option.bind_some, kyOf_nD, fD_val, hv, Option.map_some, R.opt_some]
theorem add_row (r : List Nat) (k : Nat) (h : r.length < 100000) : opD .add (rowD r) (.tup [nD k]) = some (rowD (r ++ [k])) := by
  show (if (r.map nD).length + [nD k].length ≤ lim then some (D.tup (r.map nD ++ [nD k])) else none) = _
  rw [if_pos (by rw [List.length_map]; show r.length + 1 ≤ 16777216; omega)]
  simp [rowD]
theorem ev_subK {V : EV.Env} {e : LE} {i j n : Nat} {l : EV.Loc} {S : Sto} {t : Nat} {r : List Nat} {f : List (Nat × List Nat)} (he : evE V e l S = .ok (.d (rowD r)) S) (h1 : l[i]? = some (some (.ref n))) (h2 : l[j]? = some (some (.d (nD t)))) (hn : (S : List Cell)[n]? = some (.dic (fD f))) (ht : t ∉ f.map Prod.fst) (hl : f.length < 100000) :
    evS V (.sub (.var i) (.var j) e) l S = .nx l (S.set n (.dic (fD (f ++ [(t, r)])))) := by
  have hl' : (fD f).length < lim := by unfold fD; rw [List.length_map]; show f.length < 16777216; omega
  simp only [evS, he, R.st_ok]
  simp only [evE, h1, h2, R.st_ok, take, RS.opt_some, subC, hn, kyOf_nD, if_pos hl', fD_put ht]
theorem ev_tup1 {V : EV.Env} {a : LE} {l : EV.Loc} {S S1 : Sto} {x : D} (h1 : evE V a l S = .ok (.d x) S1) : evE V (.tup (.cons a .nil)) l S = .ok (.d (.tup [x])) S1 := ev_tupN (ds := [x]) (evEs_cons h1 evEs_nil)
theorem preLen {f : List (Nat × List Nat)} {s : Nat} {pre : List Nat} {n m : Nat} (h : OkF n m f) (hv : valA f s = some pre) : pre.length < f.length ∧ (∀ a ∈ pre, a < m) ∧ s < n := by
  unfold valA at hv
  rw [Option.map_eq_some_iff] at hv
  obtain ⟨p, hp, rfl⟩ := hv
  have hm := List.mem_of_find?_eq_some hp
  have hs := List.find?_some hp
  obtain ⟨i, hi⟩ := List.mem_iff_getElem?.mp hm
  have := h.len i p hi
  have := (List.getElem?_eq_some_iff.mp hi).1
  refine ⟨by omega, h.sym p hm, ?_⟩
  have e : p.1 = s := by simpa using hs
  rw [← e]; exact h.lt p hm
section
variable {n : Nat} {t : Nat} {δ : Stp} {E : List Nat} {m : Nat}
theorem ways_body {S : Sto} {at_ : Option Vl} {s : Nat} {pre : List Nat} (hpre : pre.length < 1000) (k t' : Nat) (f : List (Nat × List Nat)) (h1 : valA f s = some pre) (h3 : f.length < 1000) {o0 : Option Vl} :
    evSs (UN n) f_raw_ways_1 [o0, some (.ref S.length), some (.ref (S.length + 1)), at_, some (.d (nD s)), some (.d (nD k)), some (.d (nD t'))] (stF S 0 f) =
      .nx [o0, some (.ref S.length), some (.ref (S.length + 1)), at_, some (.d (nD s)), some (.d (nD k)), some (.d (nD t'))] (stF S 0 (if t' ∈ f.map Prod.fst then f else f ++ [(t', pre ++ [k])])) := by
  have c := notin_dic (V := UN n) (i := 6) (j := 1) (l := [o0, some (.ref S.length), some (.ref (S.length + 1)), at_, some (.d (nD s)), some (.d (nD k)), some (.d (nD t'))]) (S := stF S 0 f) rfl rfl (g2a S _ _)
  by_cases e : t' ∈ f.map Prod.fst
  · rw [decide_eq_true e] at c
    rw [if_pos e]
    exact (evSs_cons ((ev_if_f c).trans rfl)).trans rfl
  · rw [decide_eq_false e] at c
    rw [if_neg e]
    have s1 := ev_subK (V := UN n) (i := 1) (j := 6) (S := stF S 0 f) (l := [o0, some (.ref S.length), some (.ref (S.length + 1)), at_, some (.d (nD s)), some (.d (nD k)), some (.d (nD t'))]) (ev_op (idx_dic (i := 1) (j := 4) rfl rfl (g2a S _ _) h1) (ev_tup1 (ev_var (i := 5) rfl)) (add_row pre k (by omega))) rfl rfl (g2a S _ _) e (by omega)
    unfold stF at s1
    rw [s2a] at s1
    have s2 := ev_append (V := UN n) (i := 2) (e := .var 6) (l := [o0, some (.ref S.length), some (.ref (S.length + 1)), at_, some (.d (nD s)), some (.d (nD k)), some (.d (nD t'))]) (S := S ++ [.dic (fD (f ++ [(t', pre ++ [k])])), .lst (qD 0 f)]) rfl (g2b S _ _) (ev_var rfl) (by unfold qD; rw [List.length_map, List.drop_zero]; show f.length < 16777216; omega)
    rw [s2b, ← qD_app (d := 0) (f := f) (Nat.zero_le _) (t', pre ++ [k])] at s2
    exact (evSs_cons ((ev_if_t c).trans ((evSs_cons s1).trans ((evSs_cons s2).trans rfl)))).trans rfl
theorem come_body {S : Sto} {lap : Option Vl} {d s : Nat} {pre : List Nat} (hpre : pre.length < 1000) (k t' : Nat) (f : List (Nat × List Nat)) (h1 : valA f s = some pre) (h2 : d ≤ f.length) (h3 : f.length < 1000) {o0 : Option Vl} :
    evSs (UN n) f_law_come_1 [o0, lap, some (.ref S.length), some (.ref (S.length + 1)), some (.d (nD s)), some (.d (nD k)), some (.d (nD t'))] (stF S d f) =
      .nx [o0, lap, some (.ref S.length), some (.ref (S.length + 1)), some (.d (nD s)), some (.d (nD k)), some (.d (nD t'))] (stF S d (if t' ∈ f.map Prod.fst then f else f ++ [(t', pre ++ [k])])) := by
  have c := notin_dic (V := UN n) (i := 6) (j := 2) (l := [o0, lap, some (.ref S.length), some (.ref (S.length + 1)), some (.d (nD s)), some (.d (nD k)), some (.d (nD t'))]) (S := stF S d f) rfl rfl (g2a S _ _)
  by_cases e : t' ∈ f.map Prod.fst
  · rw [decide_eq_true e] at c
    rw [if_pos e]
    exact (evSs_cons ((ev_if_f c).trans rfl)).trans rfl
  · rw [decide_eq_false e] at c
    rw [if_neg e]
    have s1 := ev_subK (V := UN n) (i := 2) (j := 6) (S := stF S d f) (l := [o0, lap, some (.ref S.length), some (.ref (S.length + 1)), some (.d (nD s)), some (.d (nD k)), some (.d (nD t'))]) (ev_op (idx_dic (i := 2) (j := 4) rfl rfl (g2a S _ _) h1) (ev_tup1 (ev_var (i := 5) rfl)) (add_row pre k (by omega))) rfl rfl (g2a S _ _) e (by omega)
    unfold stF at s1
    rw [s2a] at s1
    have s2 := ev_append (V := UN n) (i := 3) (e := .var 6) (l := [o0, lap, some (.ref S.length), some (.ref (S.length + 1)), some (.d (nD s)), some (.d (nD k)), some (.d (nD t'))]) (S := S ++ [.dic (fD (f ++ [(t', pre ++ [k])])), .lst (qD d f)]) rfl (g2b S _ _) (ev_var rfl) (by unfold qD; rw [List.length_map, List.length_drop]; show f.length - d < 16777216; omega)
    rw [s2b, ← qD_app (d := d) (f := f) h2 (t', pre ++ [k])] at s2
    exact (evSs_cons ((ev_if_t c).trans ((evSs_cons s1).trans ((evSs_cons s2).trans rfl)))).trans rfl
theorem mrow {V : EV.Env} {i : Nat} {l : EV.Loc} {S : Sto} {s : Nat} (h0 : l[0]? = some (some (.d (mD t δ E)))) (hi : l[i]? = some (some (.d (nD s)))) (hs : s < δ.length) : evE V (.idx (.idx (.var 0) (.lit (.int 1))) (.var i)) l S = .ok (.d (rowD (δ.getD s []))) S := by
  obtain ⟨h1, _⟩ := row_at hs
  exact ev_ixT (ds := δ.map rowD) (k := s) (ev_ix1 (ev_var h0)) (ev_var hi) (by rw [List.getElem?_map, h1]; rfl)
theorem ev_enm {V : EV.Env} {a : LE} {l : EV.Loc} {S S1 : Sto} {ds : List D} (h : evE V a l S = .ok (.d (.tup ds)) S1) : evI V (.enm a) l S = .ok (.items (enmD ds 0)) S1 := by
  simp only [evI, h, R.bind_ok, seqD, R.opt_some]
end
end K04
end

section
set_option Elab.async false
set_option linter.all false
set_option maxRecDepth 100000
set_option maxHeartbeats 4000000
namespace K04
open PySem EV
abbrev cF (V : EV.Env) (c : LE) : EV.Loc → Sto → EV.R Bool := fun l S => (evE V c l S).bind fun v S1 => R.opt (asBool v) fun k => .ok k S1
theorem while_f {V : EV.Env} {c : LE} {b : EV.Loc → Sto → RS} {k : Nat} {l : EV.Loc} {S : Sto} (h : evE V c l S = .ok (.d (.bl false)) S) : whileGo (cF V c) b (k + 1) l S = .nx l S := by
  simp only [whileGo, cF, h, R.bind_ok, asBool, R.opt_some, R.st_ok]
  rfl
theorem while_t {V : EV.Env} {c : LE} {b : EV.Loc → Sto → RS} {k : Nat} {l l2 : EV.Loc} {S S2 : Sto} (h : evE V c l S = .ok (.d (.bl true)) S) (hb : b l S = .nx l2 S2) : whileGo (cF V c) b (k + 1) l S = whileGo (cF V c) b k l2 S2 := by
  conv => lhs; unfold whileGo
  simp only [cF, h, R.bind_ok, asBool, R.opt_some, R.st_ok, if_true, hb]
theorem ev_while {V : EV.Env} {c : LE} {b : LSs} {l : EV.Loc} {S : Sto} : evS V (.while_ c b) l S = whileGo (cF V c) (evSs V b) V.wf l S := by simp only [evS]
theorem ev_lenR {V : EV.Env} {i a : Nat} {l : EV.Loc} {S : Sto} {ds : List D} (hi : l[i]? = some (some (.ref a))) (hS : (S : List Cell)[a]? = some (.lst ds)) : evE V (.bi .len (.cons (.var i) .nil)) l S = .ok (.d (nD ds.length)) S := by
  have e : biV .len [.ref a] S = some (nD ds.length) := by
    show biW .len [.ref a] S = _
    simp [biW, dicOf, hS, peeks, peek, biD, nD]
  simp only [evE, evEs, hi, R.bind_ok, e, R.opt_some]
theorem ev_idxR {V : EV.Env} {i j a k : Nat} {l : EV.Loc} {S : Sto} {ds : List D} {x : D} (hi : l[i]? = some (some (.ref a))) (hj : l[j]? = some (some (.d (nD k)))) (hS : (S : List Cell)[a]? = some (.lst ds)) (hx : ds[k]? = some x) : evE V (.idx (.var i) (.var j)) l S = .ok (.d x) S := by
  have hl := (List.getElem?_eq_some_iff.mp hx).1
  simp only [evE, hi, hj, R.bind_ok, idxV, dicOf, ditOf, hS, peek, idxD, nD, ixI_nat hl, Option.bind_some, hx, R.opt_some]
theorem ev_pop0 {V : EV.Env} {i a : Nat} {l : EV.Loc} {S : Sto} {x : D} {r : List D} (hi : l[i]? = some (some (.ref a))) (hS : (S : List Cell)[a]? = some (.lst (x :: r))) : evE V (.mt .pop0 (.var i) (.cons (.lit (.int 0)) .nil)) l S = .ok (.d x) (S.set a (.lst r)) := by
  have ty : isTy (mtTyp .pop0) (.ref a) S = some true := by simp [isTy, mtTyp, hS]
  simp only [evE, evEs, hi, R.bind_ok, ty, if_true, mtV, mtPop0, hS]
theorem lt_nD (a b : Nat) : cmD .lt (nD a) (nD b) = some (decide (a < b)) := congrArg some (decide_eq_decide.mpr (by omega))
theorem gt0_nD (a : Nat) : cmD .gt (nD a) (.int 0) = some (decide (0 < a)) := congrArg some (decide_eq_decide.mpr (by omega))
theorem add1_nD (a : Nat) : opD .add (nD a) (.int 1) = some (nD (a + 1)) := rfl
theorem qD_len (d : Nat) (f : List (Nat × List Nat)) : (qD d f).length = f.length - d := by unfold qD; rw [List.length_map, List.length_drop]
section
variable {n : Nat} {t : Nat} {δ : Stp} {E : List Nat} {m : Nat}
theorem ways_while (hδ : OkS δ m) (hm : m ≤ 100) (hl : δ.length ≤ 200) {S : Sto} : ∀ (k d fuel : Nat) (f : List (Nat × List Nat)) (o4 o5 o6 : Option Vl), OkF δ.length m f → d ≤ f.length → δ.length ≤ d + k → k < fuel →
    ∃ d' o4' o5' o6', whileGo (cF (UN n) c_raw_ways_2) (evSs (UN n) w_raw_ways_3) fuel [some (.d (mD t δ E)), some (.ref S.length), some (.ref (S.length + 1)), some (.d (nD d)), o4, o5, o6] (stF S 0 f) =
      .nx [some (.d (mD t δ E)), some (.ref S.length), some (.ref (S.length + 1)), some (.d (nD d')), o4', o5', o6'] (stF S 0 (bfs δ k d f))
  | k, d, 0, f, o4, o5, o6, _, _, _, hf => absurd hf (by omega)
  | k, d, fuel + 1, f, o4, o5, o6, h, hd, hk, hf => by
    have hle := h.le
    have c : evE (UN n) c_raw_ways_2 [some (.d (mD t δ E)), some (.ref S.length), some (.ref (S.length + 1)), some (.d (nD d)), o4, o5, o6] (stF S 0 f) = .ok (.d (.bl (decide (d < (qD 0 f).length)))) (stF S 0 f) :=
      ev_cmp (ev_var rfl) (ev_lenR rfl (g2b S _ _)) (lt_nD _ _)
    rw [qD_len, Nat.sub_zero] at c
    cases e : f[d]? with
    | none =>
      have : f.length ≤ d := List.getElem?_eq_none_iff.mp e
      rw [decide_eq_false (by omega)] at c
      refine ⟨d, o4, o5, o6, ?_⟩
      have e2 : bfs δ k d f = f := by
        cases k with
        | zero => rfl
        | succ k => unfold bfs; rw [e]
      rw [e2]
      exact while_f c
    | some p =>
      have hlt := (List.getElem?_eq_some_iff.mp e).1
      rw [decide_eq_true hlt] at c
      cases k with
      | zero => omega
      | succ k =>
        obtain ⟨s1, s2⟩ := bfs_step hδ h e
        have hp := List.mem_of_getElem? e
        have hv : valA f p.1 = some p.2 := valA_mem h.nd hp
        obtain ⟨p1, p2, p3⟩ := preLen h hv
        obtain ⟨_, hr⟩ := row_at p3
        have hrl := hδ.row _ hr
        obtain ⟨o5', o6', hin⟩ := inner (b := evSs (UN n) f_raw_ways_1) (L := fun x y => [some (.d (mD t δ E)), some (.ref S.length), some (.ref (S.length + 1)), some (.d (nD d)), some (.d (nD p.1)), x, y]) (S := S) (d := 0) (s := p.1) (pre := p.2) (fun x y o5 o6 => rfl)
          (fun k t' f h1 h2 h3 => ways_body (by omega) k t' f h1 h3) (δ.getD p.1 []) 0 f o5 o6 hv (Nat.zero_le _) (by omega)
        have hb : evSs (UN n) w_raw_ways_3 [some (.d (mD t δ E)), some (.ref S.length), some (.ref (S.length + 1)), some (.d (nD d)), o4, o5, o6] (stF S 0 f) =
            .nx [some (.d (mD t δ E)), some (.ref S.length), some (.ref (S.length + 1)), some (.d (nD (d + 1))), some (.d (nD p.1)), o5', o6'] (stF S 0 (expd p.2 (δ.getD p.1 []) 0 f)) := by
          have a1 := ev_asgD (i := 4) (ev_idxR (V := UN n) (i := 2) (j := 3) (l := [some (.d (mD t δ E)), some (.ref S.length), some (.ref (S.length + 1)), some (.d (nD d)), o4, o5, o6]) (S := stF S 0 f) (ds := qD 0 f) (k := d) (x := nD p.1) rfl rfl (g2b S _ _) (by unfold qD; rw [List.getElem?_map, List.drop_zero, e]; rfl))
          have a2 := (ev_for (V := UN n) (t := .tp (.nm 5) (.nm 6)) (b := f_raw_ways_1) (ev_enm (mrow (i := 4) (E := E) (t := t) (V := UN n) (l := [some (.d (mD t δ E)), some (.ref S.length), some (.ref (S.length + 1)), some (.d (nD d)), some (.d (nD p.1)), o5, o6]) (S := stF S 0 f) rfl rfl p3))).trans hin
          have a3 := ev_asgD (V := UN n) (i := 3) (S := stF S 0 (expd p.2 (δ.getD p.1 []) 0 f)) (ev_op (ev_var (i := 3) (l := [some (.d (mD t δ E)), some (.ref S.length), some (.ref (S.length + 1)), some (.d (nD d)), some (.d (nD p.1)), o5', o6']) rfl) ev_lit (add1_nD d))
          exact (evSs_cons a1).trans ((evSs_cons a2).trans ((evSs_cons a3).trans rfl))
        have hlen := s2.length_le
        obtain ⟨d', q4, q5, q6, ih⟩ := ways_while hδ hm hl k (d + 1) fuel (expd p.2 (δ.getD p.1 []) 0 f) (some (.d (nD p.1))) o5' o6' s1 (by omega) (by omega) (by omega)
        refine ⟨d', q4, q5, q6, ?_⟩
        have e2 : bfs δ (k + 1) d f = bfs δ k (d + 1) (expd p.2 (δ.getD p.1 []) 0 f) := by
          conv => lhs; unfold bfs
          rw [e]
        rw [e2, ← ih]
        exact while_t c hb
theorem run_ref {V : EV.Env} {F : Fn} {vs : List Vl} {S S' : Sto} {a : Nat} (h0 : vs.length = F.np) (h : evSs V F.body (vs.map some ++ List.replicate (F.nl - F.np) none) S = .ret (.ref a) S') (h1 : S.length ≤ a) : runF V F vs S = .ok (.ref a) S' := by
  unfold runF
  rw [if_pos h0, h]
  simp only [keepS]
  rw [if_neg (by omega)]
theorem start_dct {V : EV.Env} {l : EV.Loc} {S : Sto} : evE V (.dct (.cons (.lit (.int 0)) (.cons (.tup .nil) .nil))) l S = .ok (.ref S.length) (S ++ [.dic (fD [(0, [])])]) := by
  simp [evSs, evS, evE, evEs, evO, evC, evI, R.opt, RS.opt, setTV, setT, asBool, isTy, isTyD, cmV, dicOf, ditOf, keyT, peek, peeks, cmD, biV, biW, rprV, biD, idxV, idxD, slcV, slcD, mtV, mtApp, mtPure, mtTyp, mtD, opD, take, takes, keepS, runF, noX, dctR, pairsA, kyOf, putA, fD, rowD, R.bind]
theorem c_ways (hδ : OkS δ m) (hm : m ≤ 100) (hl : δ.length ≤ 50) (S : Sto) : CN (n + 1) 18 [.d (mD t δ E)] S = .ok (.ref S.length) (stF S 0 (come δ)) := by
  rw [cn_at (F := d_raw_ways.fn) rfl]
  obtain ⟨d', o4, o5, o6, h⟩ := ways_while (n := n) (t := t) (E := E) hδ hm (by omega) (S := S) δ.length 0 100 [(0, [])] none none none (start_ok hδ) (Nat.zero_le _) (by omega) (by omega)
  have p0 : evS (UN n) (.par3 1 2 3 (.dct (.cons (.lit (.int 0)) (.cons (.tup .nil) .nil))) (.thaw (.lst (.cons (.lit (.int 0)) .nil))) (.lit (.int 0))) [some (.d (mD t δ E)), none, none, none, none, none, none] S =
      .nx [some (.d (mD t δ E)), some (.ref S.length), some (.ref (S.length + 1)), some (.d (nD 0)), none, none, none] (stF S 0 [(0, [])]) := by
    have e2 := ev_thaw (V := UN n) (l := [some (.d (mD t δ E)), none, none, none, none, none, none]) (S := S ++ [.dic (fD [(0, [])])]) (ev_lst1 (ev_lit (d := .int 0)))
    simp only [evS, start_dct, R.st_ok, e2, ev_lit]
    simp [stF, qD, nD]
  have key : evSs (UN n) d_raw_ways.fn.body [some (.d (mD t δ E)), none, none, none, none, none, none] S = .ret (.ref S.length) (stF S 0 (come δ)) :=
    (evSs_cons p0).trans ((evSs_cons (ev_while.trans h)).trans (evSs_ret (ev_retk (ev_var rfl))))
  exact run_ref rfl key (Nat.le_refl _)
theorem qD_cons {d : Nat} {f : List (Nat × List Nat)} {p : Nat × List Nat} (h : f[d]? = some p) : qD d f = nD p.1 :: qD (d + 1) f := by
  unfold qD
  have hl := (List.getElem?_eq_some_iff.mp h).1
  rw [List.drop_eq_getElem_cons hl, List.map_cons]
  rw [List.getElem?_eq_getElem hl] at h
  rw [Option.some.inj h]
theorem c_come (hδ : OkS δ m) (hm : m ≤ 100) (hl : δ.length ≤ 50) (S : Sto) : ∃ d, CN (n + 1) 46 [.d (mD t δ E)] S = .ok (.ref S.length) (stF S d (come δ)) := by
  obtain ⟨l', S', h1, d, f, o1, o4, o5, o6, rfl, rfl, hF, hd, hB⟩ := forGo_inv (t := .nm 1) (b := evSs (UN n) f_law_come_2) (fun j l S' => ∃ d f o1 o4 o5 o6, l = [some (.d (mD t δ E)), o1, some (.ref S.length), some (.ref (S.length + 1)), o4, o5, o6] ∧ S' = stF S d f ∧ OkF δ.length m f ∧ d ≤ f.length ∧ bfs δ (2000 - j) d f = bfs δ 2000 0 [(0, [])])
    (xs := rangeD 0 (2000 : Nat)) (k := 0) (l := [some (.d (mD t δ E)), none, some (.ref S.length), some (.ref (S.length + 1)), none, none, none]) (S := stF S 0 [(0, [])]) ⟨0, [(0, [])], none, none, none, none, rfl, rfl, start_ok hδ, Nat.zero_le _, rfl⟩ (fun i x l S' hx hI => by
      obtain ⟨hi, rfl⟩ := rng_at hx
      obtain ⟨d, f, o1, o4, o5, o6, rfl, rfl, h, hd, hB⟩ := hI
      have hle := h.le
      have c : evE (UN n) (.cmp .gt (.bi .len (.cons (.var 3) .nil)) (.lit (.int 0))) [some (.d (mD t δ E)), some (.d (nD i)), some (.ref S.length), some (.ref (S.length + 1)), o4, o5, o6] (stF S d f) = .ok (.d (.bl (decide (0 < (qD d f).length)))) (stF S d f) :=
        ev_cmp (ev_lenR rfl (g2b S _ _)) ev_lit (gt0_nD _)
      rw [qD_len] at c
      rw [show 2000 - (0 + i) = (2000 - (0 + i + 1)) + 1 from by omega] at hB
      cases e : f[d]? with
      | none =>
        have : f.length ≤ d := List.getElem?_eq_none_iff.mp e
        rw [decide_eq_false (by omega)] at c
        refine ⟨_, _, _, rfl, (evSs_cons ((ev_if_f c).trans rfl)).trans rfl, d, f, _, o4, o5, o6, rfl, rfl, h, hd, ?_⟩
        rw [← hB]
        have e1 : ∀ K, bfs δ K d f = f := fun K => by
          cases K with
          | zero => rfl
          | succ K => unfold bfs; rw [e]
        rw [e1, e1]
      | some p =>
        have hlt := (List.getElem?_eq_some_iff.mp e).1
        rw [decide_eq_true (by omega)] at c
        obtain ⟨s1, s2⟩ := bfs_step hδ h e
        have hp := List.mem_of_getElem? e
        have hv : valA f p.1 = some p.2 := valA_mem h.nd hp
        obtain ⟨p1, p2, p3⟩ := preLen h hv
        obtain ⟨_, hr⟩ := row_at p3
        have hrl := hδ.row _ hr
        obtain ⟨o5', o6', hin⟩ := inner (b := evSs (UN n) f_law_come_1) (L := fun x y => [some (.d (mD t δ E)), some (.d (nD i)), some (.ref S.length), some (.ref (S.length + 1)), some (.d (nD p.1)), x, y]) (S := S) (d := d + 1) (s := p.1) (pre := p.2) (fun x y o5 o6 => rfl)
          (fun k t' f h1 h2 h3 => come_body (by omega) k t' f h1 h2 h3) (δ.getD p.1 []) 0 f o5 o6 hv (by omega) (by omega)
        have a0 := ev_pop0 (V := UN n) (i := 3) (l := [some (.d (mD t δ E)), some (.d (nD i)), some (.ref S.length), some (.ref (S.length + 1)), o4, o5, o6]) (S := stF S d f) (x := nD p.1) (r := qD (d + 1) f) rfl (by rw [← qD_cons e]; exact g2b S _ _)
        unfold stF at a0
        rw [s2b] at a0
        have a1 := ev_asgD (i := 4) a0
        have a2 := (ev_for (V := UN n) (t := .tp (.nm 5) (.nm 6)) (b := f_law_come_1) (ev_enm (mrow (i := 4) (E := E) (t := t) (V := UN n) (l := [some (.d (mD t δ E)), some (.d (nD i)), some (.ref S.length), some (.ref (S.length + 1)), some (.d (nD p.1)), o5, o6]) (S := stF S (d + 1) f) rfl rfl p3))).trans hin
        have hlen := s2.length_le
        refine ⟨_, _, _, rfl, (evSs_cons ((ev_if_t c).trans ((evSs_cons a1).trans ((evSs_cons a2).trans rfl)))).trans rfl, d + 1, expd p.2 (δ.getD p.1 []) 0 f, _, _, o5', o6', rfl, rfl, s1, by omega, ?_⟩
        rw [← hB]
        conv => rhs; unfold bfs
        rw [e])
  rw [rng_len, Nat.zero_add] at hB
  have hB2 : f = come δ := by
    have : bfs δ (2000 - 2000) d f = f := rfl
    rw [this] at hB
    rw [hB]
    have := bfs_more hδ δ.length (2000 - δ.length) 0 (start_ok hδ) (by omega)
    rw [show δ.length + (2000 - δ.length) = 2000 from by omega] at this
    exact this
  subst hB2
  refine ⟨d, ?_⟩
  rw [cn_at (F := d_law_come.fn) rfl]
  have p0 : evS (UN n) (.par 2 3 (.dct (.cons (.lit (.int 0)) (.cons (.tup .nil) .nil))) (.thaw (.lst (.cons (.lit (.int 0)) .nil)))) [some (.d (mD t δ E)), none, none, none, none, none, none] S =
      .nx [some (.d (mD t δ E)), none, some (.ref S.length), some (.ref (S.length + 1)), none, none, none] (stF S 0 [(0, [])]) := by
    have e2 := ev_thaw (V := UN n) (l := [some (.d (mD t δ E)), none, none, none, none, none, none]) (S := S ++ [.dic (fD [(0, [])])]) (ev_lst1 (ev_lit (d := .int 0)))
    simp only [evS, start_dct, R.st_ok, e2]
    simp [stF, qD, nD]
  have key : evSs (UN n) d_law_come.fn.body [some (.d (mD t δ E)), none, none, none, none, none, none] S = .ret (.ref S.length) (stF S d (come δ)) :=
    (evSs_cons p0).trans ((evSs_cons ((ev_for (ev_rng1 ev_lit (by decide))).trans h1)).trans (evSs_ret (ev_retk (ev_var rfl))))
  exact run_ref rfl key (Nat.le_refl _)
end
end K04
end

section
set_option Elab.async false
set_option linter.all false
set_option maxRecDepth 100000
set_option maxHeartbeats 4000000
namespace K04
open PySem EV
theorem ev_comp_map' {V : EV.Env} {elt : LE} {g : LI} {t : LT} {own : List Nat} {l : EV.Loc} {S0 S : Sto} {ds : List D} (f : D → D) (h1 : evI V g l S0 = .ok (.items ds) S) (h2 : ∀ x ∈ ds, ∃ l', setT t x (wipeL l own) = some l' ∧ evE V elt l' S = .ok (.d (f x)) S) (h3 : ds.length ≤ lim) :
    evE V (.comp elt g t .no own) l S0 = .ok (.d (.lst (ds.map f))) S := by
  simp only [evE, h1, R.bind_ok, compR]
  rw [compGo_map f (fun x hx => ?_) (by simpa using h3)]
  · simp
  · obtain ⟨l', q1, q2⟩ := h2 x hx
    exact ⟨l', q1, rfl, q2⟩
theorem ev_comp_fm' {V : EV.Env} {elt cn : LE} {g : LI} {t : LT} {own : List Nat} {l : EV.Loc} {S0 S : Sto} {ds : List D} (p : D → Bool) (f : D → D) (h1 : evI V g l S0 = .ok (.items ds) S) (h2 : ∀ x ∈ ds, ∃ l', setT t x (wipeL l own) = some l' ∧ evE V cn l' S = .ok (.d (.bl (p x))) S ∧ (p x = true → evE V elt l' S = .ok (.d (f x)) S)) (h3 : ds.length ≤ lim) :
    evE V (.comp elt g t (.yes cn) own) l S0 = .ok (.d (.lst ((ds.filter p).map f))) S := by
  simp only [evE, h1, R.bind_ok, compR]
  rw [compGo_fm p f (fun x hx => ?_) (by simpa using h3)]
  · simp
  · obtain ⟨l', q1, q2, q3⟩ := h2 x hx
    exact ⟨l', q1, by simp [evC, q2, asBool], q3⟩
/-- a table is walked: it may not be changed from then on -/
theorem ev_walk {V : EV.Env} {i a : Nat} {l : EV.Loc} {S : Sto} {f : List (Nat × List Nat)} {c : Cell} (hi : l[i]? = some (some (.ref a))) (hS : (S : List Cell)[a]? = some c) (hc : c = .dic (fD f) ∨ c = .fzd (fD f)) : evI V (.val (.var i)) l S = .ok (.items (f.map fun p => nD p.1)) (S.set a (.fzd (fD f))) := by
  have e1 : liveL S a = false := by rcases hc with rfl | rfl <;> simp [liveL, hS]
  have e2 : dicOf S (.ref a) = some (fD f) := by rcases hc with rfl | rfl <;> simp [dicOf, hS]
  simp only [evI, evE, hi, R.bind_ok, e1, e2, R.opt_some]
  simp [fD, kyD, nD, Function.comp_def]
theorem idx_fzd {V : EV.Env} {i j a : Nat} {l : EV.Loc} {S : Sto} {s : Nat} {r : List Nat} {f : List (Nat × List Nat)} {c : Cell} (hi : l[i]? = some (some (.ref a))) (hj : l[j]? = some (some (.d (nD s)))) (hS : (S : List Cell)[a]? = some c) (hc : c = .dic (fD f) ∨ c = .fzd (fD f)) (hv : valA f s = some r) : evE V (.idx (.var i) (.var j)) l S = .ok (.d (rowD r)) S := by
  have e2 : dicOf S (.ref a) = some (fD f) := by rcases hc with rfl | rfl <;> simp [dicOf, hS]
  simp only [evE, hi, hj, R.bind_ok, idxV, e2, peek, Option.bind_some, kyOf_nD, fD_val, hv, Option.map_some, R.opt_some]
/-! ### the least of some rows -/
def tupD (r : List Nat) : D := .tup [nD r.length, rowD r]
theorem lt_ints : ∀ a b : List Nat, ∃ k, ltDs (a.map nD) (b.map nD) = some k
  | [], [] => ⟨_, rfl⟩
  | [], _ :: _ => ⟨_, rfl⟩
  | _ :: _, [] => ⟨_, rfl⟩
  | x :: a, y :: b => by
    simp only [List.map_cons, ltDs]
    split
    · exact lt_ints a b
    · exact ⟨_, rfl⟩
theorem lt_tup (a b : List Nat) : ∃ k, ltD (tupD a) (tupD b) = some k := by
  obtain ⟨k, hk⟩ := lt_ints a b
  simp only [tupD, ltD, ltDs]
  split
  · split
    · exact ⟨_, rfl⟩
    · refine ⟨k, ?_⟩
      simp only [rowD, ltD, hk]
  · exact ⟨_, rfl⟩
theorem least_tup : ∀ (L : List (List Nat)) (r : List Nat), ∃ x, (x = r ∨ x ∈ L) ∧ leastD (tupD r) (L.map tupD) = some (tupD x)
  | [], r => ⟨r, .inl rfl, rfl⟩
  | a :: L, r => by
    obtain ⟨k, hk⟩ := lt_tup a r
    cases k with
    | true =>
      obtain ⟨x, h1, h2⟩ := least_tup L a
      refine ⟨x, ?_, by simp only [List.map_cons, leastD, hk, h2]⟩
      rcases h1 with h1 | h1
      · exact .inr (by rw [h1]; exact List.mem_cons_self)
      · exact .inr (List.mem_cons_of_mem _ h1)
    | false =>
      obtain ⟨x, h1, h2⟩ := least_tup L r
      refine ⟨x, ?_, by simp only [List.map_cons, leastD, hk, h2]⟩
      rcases h1 with h1 | h1
      · exact .inl h1
      · exact .inr (List.mem_cons_of_mem _ h1)
theorem likes_ints : ∀ a b : List Nat, likeDs (a.map nD) (b.map nD) = true
  | [], [] => rfl
  | [], _ :: _ => rfl
  | _ :: _, [] => rfl
  | x :: a, y :: b => by simp only [List.map_cons, likeDs, likes_ints a b, nD, likeD, Bool.and_self]
theorem like_tup (a b : List Nat) : likeD (tupD a) (tupD b) = true := by
  simp only [tupD, likeD, likeDs, nD, rowD, likes_ints, Bool.and_self]
theorem deps_ints : ∀ a : List Nat, deps (a.map nD) = 0
  | [] => rfl
  | x :: a => by simp only [List.map_cons, deps, nD, dep, deps_ints a, Nat.max_self]
theorem deps_tup : ∀ L : List (List Nat), deps (L.map tupD) ≤ 2
  | [] => Nat.zero_le _
  | a :: L => by
    have := deps_tup L
    have e : dep (tupD a) = 2 := by simp only [tupD, rowD, dep, deps, nD, deps_ints]; rfl
    simp only [List.map_cons, deps, e]
    omega
theorem min_tup (r : List Nat) (L : List (List Nat)) : ∃ x ∈ r :: L, biD .min [.lst ((r :: L).map tupD)] = some (tupD x) := by
  obtain ⟨x, h1, h2⟩ := least_tup L r
  refine ⟨x, by simpa using h1, ?_⟩
  have a1 : alikes ((r :: L).map tupD) = true := by
    unfold alikes
    rw [List.all_eq_true]
    intro p hp
    rw [List.all_eq_true]
    intro q hq
    obtain ⟨a, _, rfl⟩ := List.mem_map.mp hp
    obtain ⟨b, _, rfl⟩ := List.mem_map.mp hq
    exact like_tup a b
  have a2 := deps_tup (r :: L)
  show (if (alikes ((r :: L).map tupD) && decide (deps ((r :: L).map tupD) ≤ 60) && notLst (tupD r)) = true then leastD (tupD r) (L.map tupD) else none) = _
  rw [if_pos (by rw [a1, decide_eq_true (by omega)]; rfl)]
  exact h2
/-- the least of some rows, None of none -/
def lr (L : List (List Nat)) : D := match L with
  | [] => .non
  | r :: L => match biD .min [.lst ((r :: L).map tupD)] with
    | some (.tup [_, x]) => x
    | _ => .non
theorem lr_cons (r : List Nat) (L : List (List Nat)) : ∃ x ∈ r :: L, lr (r :: L) = rowD x ∧ biD .min [.lst ((r :: L).map tupD)] = some (tupD x) := by
  obtain ⟨x, h1, h2⟩ := min_tup r L
  exact ⟨x, h1, by simp only [lr, h2, tupD], h2⟩
/-- those told that end well -/
def som (f : List (Nat × List Nat)) (E : List Nat) : List (List Nat) := (f.filter fun p => decide (p.1 ∈ E)).map Prod.snd
theorem lr_non {f : List (Nat × List Nat)} {E : List Nat} : lr (som f E) = .non ↔ ∀ p ∈ f, p.1 ∉ E := by
  constructor
  · intro h p hp hm
    have hx : p.2 ∈ som f E := List.mem_map_of_mem (List.mem_filter.mpr ⟨hp, decide_eq_true hm⟩)
    cases e : som f E with
    | nil => rw [e] at hx; cases hx
    | cons r L =>
      rw [e] at h
      obtain ⟨x, _, h2, _⟩ := lr_cons r L
      rw [h2] at h
      cases h
  · intro h
    have e : som f E = [] := by
      unfold som
      rw [List.filter_eq_nil_iff.mpr fun p hp => by simpa using h p hp]
      rfl
    rw [e]; rfl
theorem is_non (x : D) : cmD .is x .non = some (match x with | .non => true | _ => false) := by cases x <;> rfl
theorem ev_ife_t {V : EV.Env} {c a b : LE} {l : EV.Loc} {S S1 : Sto} (h : evE V c l S = .ok (.d (.bl true)) S1) : evE V (.ife c a b) l S = evE V a l S1 := by simp only [evE, h, R.bind_ok, asBool, R.opt_some, if_true]
theorem ev_ife_f {V : EV.Env} {c a b : LE} {l : EV.Loc} {S S1 : Sto} (h : evE V c l S = .ok (.d (.bl false)) S1) : evE V (.ife c a b) l S = evE V b l S1 := by simp only [evE, h, R.bind_ok, asBool, R.opt_some]; rfl
def inE (E : List Nat) : D → Bool
  | .int s => decide (s.toNat ∈ E)
  | _ => false
def ofF (f : List (Nat × List Nat)) : D → D
  | .int s => match valA f s.toNat with
    | some r => rowD r
    | none => .non
  | _ => .non
theorem inE_nD (E : List Nat) (s : Nat) : inE E (nD s) = decide (s ∈ E) := rfl
theorem ofF_nD {f : List (Nat × List Nat)} {s : Nat} {r : List Nat} (h : valA f s = some r) : ofF f (nD s) = rowD r := by
  show (match valA f s with | some r => rowD r | none => .non) = _
  rw [h]
theorem som_gen (f : List (Nat × List Nat)) (E : List Nat) : ∀ g : List (Nat × List Nat), (∀ p ∈ g, valA f p.1 = some p.2) → ((g.map fun p => nD p.1).filter (inE E)).map (ofF f) = ((g.filter fun p => decide (p.1 ∈ E)).map Prod.snd).map rowD
  | [], _ => rfl
  | p :: g, h => by
    have hp := h p List.mem_cons_self
    have ih := som_gen f E g fun q hq => h q (List.mem_cons_of_mem _ hq)
    by_cases e : p.1 ∈ E
    · simp only [List.map_cons, List.filter_cons, inE_nD, e, decide_true, if_true, ofF_nD hp, ih]
    · simp only [List.map_cons, List.filter_cons, inE_nD, e, decide_false, Bool.false_eq_true, if_false, ih]
/-- the rows that stand by states of a lot, of a table -/
theorem ev_som {V : EV.Env} {i j k a : Nat} {l : EV.Loc} {S : Sto} {f : List (Nat × List Nat)} {c : Cell} {own : List Nat} {t : Nat} {δ : Stp} {E : List Nat} (hi : l[i]? = some (some (.ref a))) (hS : (S : List Cell)[a]? = some c) (hc : c = .dic (fD f) ∨ c = .fzd (fD f)) (hm : l[j]? = some (some (.d (mD t δ E))))
    (hw : ∀ y, ((wipeL l own).set k (some y))[i]? = some (some (.ref a)) ∧ ((wipeL l own).set k (some y))[j]? = some (some (.d (mD t δ E))) ∧ ((wipeL l own).set k (some y))[k]? = some (some y)) (nd : (f.map Prod.fst).Nodup) (hl : f.length ≤ 1000) :
    evE V (.comp (.idx (.var i) (.var k)) (.val (.var i)) (.nm k) (.yes (.cmp .isin (.var k) (.idx (.var j) (.lit (.int 2))))) own) l S = .ok (.d (.lst ((som f E).map rowD))) (S.set a (.fzd (fD f))) := by
  have hlt := (List.getElem?_eq_some_iff.mp hS).1
  have hS' : (S.set a (.fzd (fD f)) : List Cell)[a]? = some (.fzd (fD f)) := List.getElem?_set_self hlt
  have key := ev_comp_fm' (V := V) (elt := .idx (.var i) (.var k)) (cn := .cmp .isin (.var k) (.idx (.var j) (.lit (.int 2)))) (t := .nm k) (own := own) (inE E) (ofF f) (ev_walk (V := V) hi hS hc) (fun x hx => by
    obtain ⟨p, hp, rfl⟩ := List.mem_map.mp hx
    obtain ⟨w1, w2, w3⟩ := hw (.d (nD p.1))
    have hv := valA_mem nd hp
    refine ⟨_, rfl, ?_, fun _ => ?_⟩
    · exact ev_cmp (ev_var w3) (ev_ix2 (ev_var w2)) (isin_row p.1 E)
    · rw [ofF_nD hv]
      exact idx_fzd w1 w3 hS' (.inr rfl) hv) (by rw [List.length_map]; show f.length ≤ 16777216; omega)
  rw [key, som_gen f E f fun p hp => valA_mem nd hp]
  rfl
/-- the least of rows, where there are some -/
theorem ev_lr {V : EV.Env} {i k : Nat} {l : EV.Loc} {S : Sto} {L : List (List Nat)} {own : List Nat} (hi : l[i]? = some (some (.d (.lst (L.map rowD))))) (hw : ∀ y, ((wipeL l own).set k (some y))[k]? = some (some y)) (hl : L.length ≤ 1000) :
    evE V (.ife (.cmp .gt (.bi .len (.cons (.var i) .nil)) (.lit (.int 0))) (.idx (.bi .min (.cons (.comp (.tup (.cons (.bi .len (.cons (.var k) .nil)) (.cons (.var k) .nil))) (.val (.var i)) (.nm k) .no own) .nil)) (.lit (.int 1))) (.lit .non)) l S = .ok (.d (lr L)) S := by
  have c : evE V (.cmp .gt (.bi .len (.cons (.var i) .nil)) (.lit (.int 0))) l S = .ok (.d (.bl (decide (0 < (L.map rowD).length)))) S := ev_cmp (ev_bi1 (z := nD (L.map rowD).length) (ev_var hi) rfl) ev_lit (gt0_nD _)
  rw [List.length_map] at c
  cases L with
  | nil => exact (ev_ife_f c).trans ev_lit
  | cons r L =>
    obtain ⟨x, h1, h2, h3⟩ := lr_cons r L
    have hc : evE V (.comp (.tup (.cons (.bi .len (.cons (.var k) .nil)) (.cons (.var k) .nil))) (.val (.var i)) (.nm k) .no own) l S = .ok (.d (.lst ((r :: L).map tupD))) S := by
      refine (ev_comp_map (ds := (r :: L).map rowD) (fun y => match y with | .tup ds => .tup [nD ds.length, .tup ds] | _ => .non) (by simp only [evI, evE, hi, R.bind_ok, seqD, R.opt_some]) (fun y hy => ?_) (by rw [List.length_map]; show (r :: L).length ≤ 16777216; omega)).trans ?_
      · obtain ⟨q, _, rfl⟩ := List.mem_map.mp hy
        exact ⟨_, rfl, ev_tupN (ds := [nD (q.map nD).length, rowD q]) (evEs_cons (ev_lenT (ev_var (hw _))) (evEs_cons (ev_var (hw _)) evEs_nil))⟩
      · rw [List.map_map]
        congr 4
        funext q
        simp [tupD, rowD]
    rw [h2]
    exact (ev_ife_t c).trans (ev_ix1 (ev_bi1 hc h3))
end K04
end

section
set_option Elab.async false
set_option linter.all false
set_option maxRecDepth 100000
set_option maxHeartbeats 4000000
namespace K04
open PySem EV
/-! ### what is come to, sorted -/
def sD (f : List (Nat × List Nat)) : D := .tup ((srtI (f.map fun p => (p.1 : Int))).map .int)
theorem keysI_fD : ∀ f : List (Nat × List Nat), keysI (fD f) = some (f.map fun p => (p.1 : Int))
  | [] => rfl
  | p :: f => by
    have ih := keysI_fD f
    show (keysI (fD f)).map ((p.1 : Int) :: ·) = _
    rw [ih]; rfl
theorem ev_sorted {V : EV.Env} {e : LE} {a : Nat} {l : EV.Loc} {S S1 : Sto} {f : List (Nat × List Nat)} {c : Cell} (he : evE V e l S = .ok (.ref a) S1) (hS : (S1 : List Cell)[a]? = some c) (hc : c = .dic (fD f) ∨ c = .fzd (fD f)) (hl : f.length < 64) : evE V (.bi .tup (.cons (.bi .sorted (.cons e .nil)) .nil)) l S = .ok (.d (sD f)) S1 := by
  have e2 : dicOf S1 (.ref a) = some (fD f) := by rcases hc with rfl | rfl <;> simp [dicOf, hS]
  have e3 : biV .sorted [.ref a] S1 = some (.lst ((srtI (f.map fun p => (p.1 : Int))).map .int)) := by
    show biW .sorted [.ref a] S1 = _
    simp only [biW, e2, keysI_fD, Option.bind_some, List.length_map]
    rw [if_pos hl]
  have e4 : evE V (.bi .sorted (.cons e .nil)) l S = .ok (.d (.lst ((srtI (f.map fun p => (p.1 : Int))).map .int))) S1 := by
    simp only [evE, evEs, he, R.bind_ok, e3, R.opt_some]
  exact ev_bi1 e4 rfl
section
variable {n : Nat} {t : Nat} {δ : Stp} {E : List Nat} {m : Nat}
theorem come_len {δ : Stp} {m : Nat} (hδ : OkS δ m) : (come δ).length ≤ δ.length := (come_ok hδ).le
theorem c_reached (n : Nat) (h : Mch t δ E) (hl : δ.length ≤ 50) (S : Sto) : CN (n + 8) 20 [.d (mD t δ E)] S = .ok (.d (sD (come δ))) S := by
  rw [cn_at (F := d_reached.fn) rfl]
  have hm := h.syms
  have hcl := come_len h.ok
  have h19 : CN (n + 7) 19 [.d (mD t δ E)] S = .ok (.d (sD (come δ))) S := by
    rw [cn_at (F := d_raw_reached.fn) rfl]
    have e := ev_sorted (V := UN (n + 6)) (l := [some (.d (mD t δ E))]) (S := S) (cn_call1 (f := 18) (x := "raw_ways") (ev_var (i := 0) rfl) (c_ways (n := n + 5) (t := t) (E := E) h.ok (by omega) hl S)) (g2a S _ _) (.inl rfl) (by omega)
    exact run_d rfl (evSs_ret (ev_ret e)) (t2 S _ _)
  exact run_d rfl ((evSs_cons (ev_ex (cn_call1 (ev_var rfl) (c_chkm n S h)))).trans (evSs_ret (ev_ret (cn_call1 (ev_var rfl) h19)))) (take_self _)
theorem c_least21 (n : Nat) (hδ : OkS δ m) (hm : m ≤ 100) (hl : δ.length ≤ 50) (S : Sto) : CN (n + 2) 21 [.d (mD t δ E)] S = .ok (.d (lr (som (come δ) E))) S := by
  rw [cn_at (F := d_least_accepted.fn) rfl]
  have hcl := come_len hδ
  have nd := (come_ok hδ).nd
  have a1 := ev_asgD (i := 1) (cn_call1 (f := 18) (x := "raw_ways") (n := n + 1) (l := [some (.d (mD t δ E)), none, none, none, none]) (ev_var (i := 0) rfl) (c_ways (n := n) (t := t) (E := E) hδ hm hl S))
  have a2 := ev_asgD (i := 2) (ev_som (V := UN (n + 1)) (i := 1) (j := 0) (k := 3) (own := [3]) (l := [some (.d (mD t δ E)), some (.ref S.length), none, none, none]) (S := stF S 0 (come δ)) (f := come δ) (t := t) (δ := δ) (E := E) rfl (g2a S _ _) (.inl rfl) rfl (fun y => ⟨rfl, rfl, rfl⟩) nd (by omega))
  unfold stF at a2
  rw [s2a] at a2
  have hsl : (som (come δ) E).length ≤ 1000 := by
    unfold som
    rw [List.length_map]
    exact Nat.le_trans (List.length_filter_le _ _) (by omega)
  have a3 := ev_lr (V := UN (n + 1)) (i := 2) (k := 4) (own := [4]) (l := [some (.d (mD t δ E)), some (.ref S.length), some (.d (.lst ((som (come δ) E).map rowD))), none, none]) (S := S ++ [.fzd (fD (come δ)), .lst (qD 0 (come δ))]) (L := som (come δ) E) rfl (fun y => rfl) hsl
  exact run_d rfl ((evSs_cons a1).trans ((evSs_cons a2).trans (evSs_ret (ev_ret a3)))) (t2 S _ _)
theorem c_least22 (n : Nat) (h : Mch t δ E) (hl : δ.length ≤ 50) (S : Sto) : CN (n + 8) 22 [.d (mD t δ E)] S = .ok (.d (lr (som (come δ) E))) S := by
  rw [cn_at (F := d_least_row.fn) rfl]
  have hm := h.syms
  exact run_d rfl ((evSs_cons (ev_ex (cn_call1 (ev_var rfl) (c_chkm n S h)))).trans (evSs_ret (ev_ret (cn_call1 (ev_var rfl) (c_least21 (n + 5) h.ok (by omega) hl S))))) (take_self _)
def isNon : D → Bool
  | .non => true
  | _ => false
theorem isNon_eq {x : D} : isNon x = true ↔ x = .non := by cases x <;> simp [isNon]
theorem is_non' (x : D) : cmD .is x .non = some (isNon x) := by cases x <;> rfl
theorem c_none34 (n : Nat) (h : Mch t δ E) (hl : δ.length ≤ 50) (S : Sto) : CN (n + 8) 34 [.d (mD t δ E)] S = .ok (.d (.bl (isNon (lr (som (come δ) E))))) S := by
  rw [cn_at (F := d_takes_none.fn) rfl]
  have hm := h.syms
  exact run_d rfl ((evSs_cons (ev_ex (cn_call1 (ev_var rfl) (c_chkm n S h)))).trans (evSs_ret (ev_ret (ev_cmp (cn_call1 (ev_var rfl) (c_least21 (n + 5) h.ok (by omega) hl S)) ev_lit (is_non' _))))) (take_self _)
/-! ### turned -/
def trn (δ : Stp) (E : List Nat) : List Nat := (List.range δ.length).filter fun s => !decide (s ∈ E)
theorem trn_mem {s : Nat} : s ∈ trn δ E ↔ s < δ.length ∧ s ∉ E := by
  unfold trn
  rw [List.mem_filter, List.mem_range]
  simp
theorem Mch.trn (h : Mch t δ E) : Mch t δ (trn δ E) := ⟨h.tr, h.ok, h.sz, (List.pairwise_lt_range (n := δ.length)).sublist List.filter_sublist, fun x hx => (trn_mem.mp hx).1⟩
theorem rngD_nD (k : Nat) : rangeD 0 (k : Int) = (List.range k).map nD := by
  unfold rangeD
  simp only [Int.sub_zero, Int.toNat_natCast, Int.zero_add]
  rfl
theorem filt_map (p : Nat → Bool) (q : D → Bool) (h : ∀ s, q (nD s) = p s) : ∀ l : List Nat, (l.map nD).filter q = (l.filter p).map nD
  | [] => rfl
  | s :: l => by
    have ih := filt_map p q h l
    by_cases e : p s = true
    · simp only [List.map_cons, List.filter_cons, h, e, if_true, ih]
    · simp only [List.map_cons, List.filter_cons, h, e, Bool.false_eq_true, if_false, ih]
theorem c_trn23 (n : Nat) (hl : δ.length ≤ 1000) (S : Sto) : CN (n + 1) 23 [.d (mD t δ E)] S = .ok (.d (mD t δ (trn δ E))) S := by
  rw [cn_at (F := d_raw_turned.fn) rfl]
  have a1 : evS (UN n) (.asg (.tp3 (.nm 1) (.nm 2) (.nm 3)) (.var 0)) [some (.d (mD t δ E)), none, none, none, none] S = .nx [some (.d (mD t δ E)), some (.d (nD t)), some (.d (stD δ)), some (.d (rowD E)), none] S := by
    simp [evSs, evS, evE, evEs, evO, evC, evI, R.opt, RS.opt, setTV, setT, asBool, isTy, isTyD, cmV, dicOf, ditOf, keyT, peek, peeks, cmD, biV, biW, rprV, biD, idxV, idxD, slcV, slcD, mtV, mtApp, mtPure, mtTyp, mtD, opD, take, takes, keepS, runF, noX, mD]
  have hc : evE (UN n) x_raw_turned_1 [some (.d (mD t δ E)), some (.d (nD t)), some (.d (stD δ)), some (.d (rowD E)), none] S = .ok (.d (.lst ((trn δ E).map nD))) S := by
    refine (ev_comp_fm (ds := rangeD 0 (δ.length : Nat)) (fun y => !inE E y) (fun y => y) (ev_rng1 (ev_lenT (ds := δ.map rowD) (ev_var rfl) |>.trans (by rw [len_stD]; rfl)) (wide_nat (by omega))) (fun x hx => ?_) (by rw [rng_len]; show δ.length ≤ 16777216; omega)).trans ?_
    · obtain ⟨i, hi⟩ := List.mem_iff_getElem?.mp hx
      obtain ⟨_, rfl⟩ := rng_at hi
      exact ⟨_, rfl, ev_cmp (ev_var rfl) (ev_var rfl) (notin_row i E), fun _ => ev_var rfl⟩
    · rw [List.map_id', rngD_nD, filt_map (fun s => !decide (s ∈ E)) (fun y => !inE E y) (fun s => rfl)]
      rfl
  exact run_d rfl ((evSs_cons a1).trans (evSs_ret (ev_ret (ev_tupN (ds := [nD t, stD δ, rowD (trn δ E)]) (evEs_cons (ev_var rfl) (evEs_cons (ev_var rfl) (evEs_cons (ev_bi1 hc rfl) evEs_nil))))))) (take_self _)
theorem c_trn24 (n : Nat) (h : Mch t δ E) (S : Sto) : CN (n + 8) 24 [.d (mD t δ E)] S = .ok (.d (mD t δ (trn δ E))) S := by
  rw [cn_at (F := d_turned_machine.fn) rfl]
  have := h.sz
  exact run_d rfl ((evSs_cons (ev_ex (cn_call1 (ev_var rfl) (c_chkm n S h)))).trans (evSs_ret (ev_ret (cn_call1 (ev_var rfl) (c_trn23 (n + 6) (by omega) S))))) (take_self _)
theorem c_all35 (n : Nat) (h : Mch t δ E) (S : Sto) : CN (n + 8) 35 [.d (mD t δ E)] S = .ok (.d (.bl ((come δ).all fun p => decide (p.1 ∈ E)))) S := by
  rw [cn_at (F := d_takes_all.fn) rfl]
  have hm := h.syms
  have := h.sz
  have e : isNon (lr (som (come δ) (trn δ E))) = (come δ).all fun p => decide (p.1 ∈ E) := by
    rw [Bool.eq_iff_iff, isNon_eq, lr_non, List.all_eq_true]
    constructor
    · intro q p hp
      have hlt := (come_ok h.ok).lt p hp
      by_cases z : p.1 ∈ E
      · exact decide_eq_true z
      · exact absurd (trn_mem.mpr ⟨hlt, z⟩) (q p hp)
    · intro q p hp z
      exact (trn_mem.mp z).2 (of_decide_eq_true (q p hp))
  rw [← e]
  exact run_d rfl ((evSs_cons (ev_ex (cn_call1 (ev_var rfl) (c_chkm n S h)))).trans (evSs_ret (ev_ret (ev_cmp (cn_call1 (cn_call1 (ev_var rfl) (c_trn23 (n + 6) (by omega) S)) (c_least21 (n + 5) h.ok (by omega) (by omega) S)) ev_lit (is_non' _))))) (take_self _)
end
/-! ### counts -/
section
variable {t : Nat} {δ : Stp} {E : List Nat} {m : Nat}
theorem ints_nD : ∀ l : List Nat, intsOf (l.map nD) = some (l.map fun x : Nat => (x : Int))
  | [] => rfl
  | x :: l => by
    show (intsOf (l.map nD)).map ((x : Int) :: ·) = _
    rw [ints_nD l]; rfl
theorem sum_cast : ∀ l : List Nat, (l.map fun x : Nat => (x : Int)).sum = ((l.sum : Nat) : Int)
  | [] => rfl
  | x :: l => by simp [sum_cast l]
theorem sum_nD (l : List Nat) : biD .sum [.lst (l.map nD)] = some (nD l.sum) := by
  show (intsOf (l.map nD)).map (fun ns => D.int ns.sum) = _
  rw [ints_nD, Option.map_some, sum_cast]
  rfl
theorem map_row (g : List Nat → Nat) : ∀ δ : Stp, δ.map g = (List.range δ.length).map fun s => g (δ.getD s []) := by
  intro δ
  refine List.ext_getElem? fun i => ?_
  rw [List.getElem?_map, List.getElem?_map]
  by_cases h : i < δ.length
  · rw [List.getElem?_range h]
    simp [List.getElem?_eq_getElem h]
  · rw [List.getElem?_eq_none (by omega), List.getElem?_eq_none (by simpa using h)]
    rfl
def flD (δ : Stp) (e : Nat → Nat) (k : Nat) : List D := (List.range δ.length).map fun s => nD (fn δ e k s)
theorem flD_at {e : Nat → Nat} {k s : Nat} (h : s < δ.length) : (flD δ e k)[s]? = some (nD (fn δ e k s)) := by
  unfold flD
  rw [List.getElem?_map, List.getElem?_range h]
  rfl
theorem ev_idxL {V : EV.Env} {i j k : Nat} {l : EV.Loc} {S : Sto} {ds : List D} {x : D} (hi : l[i]? = some (some (.d (.lst ds)))) (hj : l[j]? = some (some (.d (nD k)))) (hx : ds[k]? = some x) : evE V (.idx (.var i) (.var j)) l S = .ok (.d x) S := by
  have hl := (List.getElem?_eq_some_iff.mp hx).1
  simp only [evE, hi, hj, R.bind_ok, idxV, dicOf, ditOf, peek, idxD, nD, ixI_nat hl, Option.bind_some, hx, R.opt_some]
theorem int_bl (b : Bool) : biD .int [.bl b] = some (nD (if b then 1 else 0)) := by cases b <;> rfl
theorem c_counts (n : Nat) (k : Nat) (hδ : OkS δ m) (hm : m ≤ 1000) (hl : δ.length ≤ 1000) (hk : k ≤ 1000) (S : Sto) : CN (n + 1) 36 [.d (mD t δ E), .d (nD k)] S = .ok (.d (.lst (flD δ (ind fun s => decide (s ∈ E)) k))) S := by
  rw [cn_at (F := d_raw_counts.fn) rfl]
  have c0 : evE (UN n) x_raw_counts_4 [some (.d (mD t δ E)), some (.d (nD k)), none, none, none, none, none] S = .ok (.d (.lst (flD δ (ind fun s => decide (s ∈ E)) 0))) S := by
    refine (ev_comp_map (ds := rangeD 0 (δ.length : Nat)) (fun y => nD (if inE E y then 1 else 0)) (ev_rng1 (ev_lenT (ds := δ.map rowD) (ev_ix1 (ev_var rfl)) |>.trans (by rw [len_stD]; rfl)) (wide_nat (by omega))) (fun x hx => ?_) (by rw [rng_len]; show δ.length ≤ 16777216; omega)).trans ?_
    · obtain ⟨i, hi⟩ := List.mem_iff_getElem?.mp hx
      obtain ⟨_, rfl⟩ := rng_at hi
      exact ⟨_, rfl, ev_bi1 (ev_cmp (ev_var rfl) (ev_ix2 (ev_var rfl)) (isin_row i E)) (int_bl _)⟩
    · rw [rngD_nD, List.map_map]
      rfl
  obtain ⟨l', S', h1, o3, rfl, rfl⟩ := forGo_inv (t := .nm 3) (b := evSs (UN n) f_raw_counts_3) (fun j l S' => ∃ o3, l = [some (.d (mD t δ E)), some (.d (nD k)), some (.d (.lst (flD δ (ind fun s => decide (s ∈ E)) j))), o3, none, none, none] ∧ S = S') (xs := rangeD 0 (k : Nat)) (k := 0) (l := [some (.d (mD t δ E)), some (.d (nD k)), some (.d (.lst (flD δ (ind fun s => decide (s ∈ E)) 0))), none, none, none, none]) (S := S) ⟨none, rfl, rfl⟩ (fun i x l S' hx hI => by
    obtain ⟨o3, rfl, rfl⟩ := hI
    have c1 : evE (UN n) x_raw_counts_2 [some (.d (mD t δ E)), some (.d (nD k)), some (.d (.lst (flD δ (ind fun s => decide (s ∈ E)) (0 + i)))), some (.d x), none, none, none] S = .ok (.d (.lst (flD δ (ind fun s => decide (s ∈ E)) (0 + i + 1)))) S := by
      refine (ev_comp_map (ds := δ.map rowD) (fun y => match y with | .tup ds => (match intsOf ds with | some is => nD ((is.map fun s : Int => fn δ (ind fun s => decide (s ∈ E)) (0 + i) s.toNat).sum) | none => .non) | _ => .non) (by
        have := ev_ix1 (V := UN n) (S := S) (x := nD t) (y := stD δ) (ds := [rowD E]) (ev_var (i := 0) (l := [some (.d (mD t δ E)), some (.d (nD k)), some (.d (.lst (flD δ (ind fun s => decide (s ∈ E)) (0 + i)))), some (.d x), none, none, none]) rfl)
        simp only [evI, this, R.bind_ok]
        rfl) (fun y hy => ?_) (by rw [List.length_map]; show δ.length ≤ 16777216; omega)).trans ?_
      · obtain ⟨r, hr, rfl⟩ := List.mem_map.mp hy
        refine ⟨_, rfl, ?_⟩
        have hrl := hδ.row r hr
        have e : (match rowD r with | .tup ds => (match intsOf ds with | some is => nD ((is.map fun s : Int => fn δ (ind fun s => decide (s ∈ E)) (0 + i) s.toNat).sum) | none => .non) | _ => .non) = nD ((r.map (fn δ (ind fun s => decide (s ∈ E)) (0 + i))).sum) := by
          show (match intsOf (r.map nD) with | some is => nD ((is.map fun s : Int => fn δ (ind fun s => decide (s ∈ E)) (0 + i) s.toNat).sum) | none => .non) = _
          rw [ints_nD]
          simp only [List.map_map]
          rfl
        rw [e]
        have inner : evE (UN n) x_raw_counts_1 (wipeL [some (.d (mD t δ E)), some (.d (nD k)), some (.d (.lst (flD δ (ind fun s => decide (s ∈ E)) (0 + i)))), some (.d x), none, none, none] [5] |>.set 5 (some (.d (rowD r)))) S = .ok (.d (.lst ((r.map (fn δ (ind fun s => decide (s ∈ E)) (0 + i))).map nD))) S := by
          refine (ev_comp_map (ds := r.map nD) (fun y => match y with | .int s => nD (fn δ (ind fun s => decide (s ∈ E)) (0 + i) s.toNat) | _ => .non) rfl (fun z hz => ?_) (by rw [List.length_map]; show r.length ≤ 16777216; omega)).trans ?_
          · obtain ⟨s, hs, rfl⟩ := List.mem_map.mp hz
            exact ⟨_, rfl, ev_idxL (i := 2) (j := 6) (k := s) rfl rfl (flD_at (hδ.lt r hr s hs))⟩
          · rw [List.map_map, List.map_map]
            rfl
        exact ev_bi1 inner (sum_nD _)
      · rw [List.map_map]
        have e : ((fun y : D => match y with | .tup ds => (match intsOf ds with | some is => nD ((is.map fun s : Int => fn δ (ind fun s => decide (s ∈ E)) (0 + i) s.toNat).sum) | none => .non) | _ => .non) ∘ rowD) = fun r => nD ((r.map (fn δ (ind fun s => decide (s ∈ E)) (0 + i))).sum) := by
          funext r
          show (match intsOf (r.map nD) with | some is => nD ((is.map fun s : Int => fn δ (ind fun s => decide (s ∈ E)) (0 + i) s.toNat).sum) | none => .non) = _
          rw [ints_nD]
          simp only [List.map_map]
          rfl
        rw [e]
        have e3 : (fun r : List Nat => nD ((r.map (fn δ (ind fun s => decide (s ∈ E)) (0 + i))).sum)) = nD ∘ fun r => (r.map (fn δ (ind fun s => decide (s ∈ E)) (0 + i))).sum := rfl
        rw [e3, ← List.map_map, map_row, List.map_map]
        rfl
    exact ⟨_, _, _, rfl, (evSs_cons (ev_asgD (i := 2) c1)).trans rfl, _, rfl, rfl⟩)
  rw [rng_len, Nat.zero_add] at h1
  exact run_d rfl ((evSs_cons (ev_asgD c0)).trans ((evSs_cons ((ev_for (ev_rng1 (ev_var rfl) (wide_nat (by omega)))).trans h1)).trans (evSs_ret (ev_ret (ev_var rfl))))) (take_self _)
theorem c_chksize (n : Nat) (x : D) (S : Sto) : CN (n + 3) 6 [.d x, .d (.int 40)] S = if isW x 0 40 then .ok (.d .non) S else .exc 1 [] S := by
  rw [cn_at (F := d_check_size.fn) rfl]
  have h1 : evE (UN (n + 2)) (.call 1 "is_within" (.cons (.var 0) (.cons (.lit (.int 0)) (.cons (.var 1) .nil)))) [some (.d x), some (.d (.int 40))] S = .ok (.d (.bl (isW x 0 40))) S :=
    cn_callN (evEs_cons (ev_var rfl) (evEs_cons ev_lit (evEs_cons (ev_var rfl) evEs_nil))) (c_within n x 0 40 S)
  cases hr : isW x 0 40 with
  | true =>
    rw [hr] at h1
    exact run_nx rfl ((evSs_cons ((ev_if_f (ev_not h1)).trans rfl)).trans rfl) (take_self _)
  | false =>
    rw [hr] at h1
    exact run_exc rfl (evSs_exc ((ev_if_t (ev_not h1)).trans (evSs_exc ev_raise))) (take_self _)
theorem w_size {k : Nat} (h : k ≤ 40) : isW (nD k) 0 40 = true := by
  show (decide ((0 : Int) ≤ (k : Int)) && decide ((k : Int) ≤ 40)) = true
  rw [decide_eq_true (by omega), decide_eq_true (by omega)]; rfl
theorem c_many37 (n : Nat) (k : Nat) (h : Mch t δ E) (hk : k ≤ 40) (S : Sto) : CN (n + 8) 37 [.d (mD t δ E), .d (nD k)] S = .ok (.d (nD (fn δ (ind fun s => decide (s ∈ E)) k 0))) S := by
  rw [cn_at (F := d_rows_many.fn) rfl]
  have hm := h.syms
  have hs := h.sz
  have hp := h.ok.pos
  have a1 : evE (UN (n + 7)) (.call 36 "raw_counts" (.cons (.var 0) (.cons (.var 1) .nil))) [some (.d (mD t δ E)), some (.d (nD k))] S = .ok (.d (.lst (flD δ (ind fun s => decide (s ∈ E)) k))) S :=
    cn_callN (evEs_cons (ev_var rfl) (evEs_cons (ev_var rfl) evEs_nil)) (c_counts (n + 6) k h.ok (by omega) (by omega) (by omega) S)
  have a2 : evE (UN (n + 7)) (.idx (.call 36 "raw_counts" (.cons (.var 0) (.cons (.var 1) .nil))) (.lit (.int 0))) [some (.d (mD t δ E)), some (.d (nD k))] S = .ok (.d (nD (fn δ (ind fun s => decide (s ∈ E)) k 0))) S := by
    have hx := flD_at (δ := δ) (e := ind fun s => decide (s ∈ E)) (k := k) (s := 0) hp
    have hl := (List.getElem?_eq_some_iff.mp hx).1
    have e0 : ixI (flD δ (ind fun s => decide (s ∈ E)) k).length 0 = some 0 := ixI_nat (j := 0) hl
    simp only [evE] at a1 ⊢
    simp only [a1, R.bind_ok, idxV, dicOf, ditOf, peek, idxD, e0, Option.bind_some, hx, R.opt_some]
  exact run_d rfl ((evSs_cons (ev_ex (cn_call1 (ev_var rfl) (c_chkm n S h)))).trans ((evSs_cons (ev_ex (cn_callN (evEs_cons (ev_var rfl) (evEs_cons ev_globD evEs_nil)) ((c_chksize (n + 4) (nD k) S).trans (if_pos (w_size hk)))))).trans (evSs_ret (ev_ret a2)))) (take_self _)
end
end K04
end

section
set_option Elab.async false
set_option linter.all false
set_option maxRecDepth 100000
set_option maxHeartbeats 4000000
namespace K04
open PySem EV
def wD (W : List (Nat × Nat)) : List (Ky × D) := W.map fun p => (.i (p.1 : Int), nD p.2)
theorem key_eq (a b : Nat) : (Ky.i (a : Int) = Ky.i (b : Int)) = (a = b) := by
  apply propext
  constructor
  · intro h; injection h with h; omega
  · intro h; rw [h]
theorem wD_val (W : List (Nat × Nat)) (s : Nat) : valA (wD W) (.i (s : Int)) = (valA W s).map nD := by
  unfold valA wD
  rw [List.find?_map]
  have e : ((fun kv : Ky × D => decide (kv.1 = Ky.i (s : Int))) ∘ fun p : Nat × Nat => (Ky.i (p.1 : Int), nD p.2)) = fun p => decide (p.1 = s) := by
    funext p
    simp only [Function.comp]
    exact decide_eq_decide.mpr (by rw [key_eq])
  rw [e]
  cases W.find? fun p => decide (p.1 = s) <;> rfl
theorem wD_put (W : List (Nat × Nat)) (s c : Nat) : putA (wD W) (.i (s : Int)) (nD c) = wD (putA W s c) := by
  unfold putA
  have e : ((wD W).any fun kv => decide (kv.1 = Ky.i (s : Int))) = W.any fun kv => decide (kv.1 = s) := by
    unfold wD
    rw [List.any_map]
    congr 1
    funext p
    simp only [Function.comp]
    exact decide_eq_decide.mpr (by rw [key_eq])
  rw [e]
  split
  · unfold wD
    rw [List.map_map, List.map_map]
    refine List.map_congr_left fun p _ => ?_
    simp only [Function.comp, key_eq]
    by_cases h : p.1 = s <;> simp [h]
  · unfold wD; simp
theorem ev_getW {V : EV.Env} {i j a : Nat} {l : EV.Loc} {S : Sto} {s : Nat} {W : List (Nat × Nat)} (hi : l[i]? = some (some (.ref a))) (hj : l[j]? = some (some (.d (nD s)))) (hS : (S : List Cell)[a]? = some (.dic (wD W))) : evE V (.mt .get (.var i) (.cons (.var j) (.cons (.lit (.int 0)) .nil))) l S = .ok (.d (nD ((valA W s).getD 0))) S := by
  have ty : isTy (mtTyp .get) (.ref a) S = some true := by simp [isTy, mtTyp, hS]
  have e : ((valA (wD W) (.i (s : Int))).getD (.int 0)) = nD ((valA W s).getD 0) := by
    rw [wD_val]
    cases valA W s <;> rfl
  simp only [evE, evEs, hi, hj, R.bind_ok, ty, if_true, mtV, mtGet, dicOf, hS, kyOf_nD, R.opt_some, e]
theorem idx_wD {V : EV.Env} {i j a : Nat} {l : EV.Loc} {S : Sto} {s c : Nat} {W : List (Nat × Nat)} {x : Cell} (hi : l[i]? = some (some (.ref a))) (hj : l[j]? = some (some (.d (nD s)))) (hS : (S : List Cell)[a]? = some x) (hc : x = .dic (wD W) ∨ x = .fzd (wD W)) (hv : valA W s = some c) : evE V (.idx (.var i) (.var j)) l S = .ok (.d (nD c)) S := by
  have e2 : dicOf S (.ref a) = some (wD W) := by rcases hc with rfl | rfl <;> simp [dicOf, hS]
  simp only [evE, hi, hj, R.bind_ok, idxV, e2, peek, Option.bind_some, kyOf_nD, wD_val, hv, Option.map_some, R.opt_some]
theorem walk_wD {V : EV.Env} {i a : Nat} {l : EV.Loc} {S : Sto} {W : List (Nat × Nat)} {c : Cell} (hi : l[i]? = some (some (.ref a))) (hS : (S : List Cell)[a]? = some c) (hc : c = .dic (wD W) ∨ c = .fzd (wD W)) : evI V (.val (.var i)) l S = .ok (.items (W.map fun p => nD p.1)) (S.set a (.fzd (wD W))) := by
  have e1 : liveL S a = false := by rcases hc with rfl | rfl <;> simp [liveL, hS]
  have e2 : dicOf S (.ref a) = some (wD W) := by rcases hc with rfl | rfl <;> simp [dicOf, hS]
  simp only [evI, evE, hi, R.bind_ok, e1, e2, R.opt_some]
  simp [wD, kyD, nD, Function.comp_def]
theorem sub_wD {V : EV.Env} {e : LE} {i j n : Nat} {l : EV.Loc} {S : Sto} {s c : Nat} {W : List (Nat × Nat)} (he : evE V e l S = .ok (.d (nD c)) S) (h1 : l[i]? = some (some (.ref n))) (h2 : l[j]? = some (some (.d (nD s)))) (hn : (S : List Cell)[n]? = some (.dic (wD W))) (hl : W.length < 100000) :
    evS V (.sub (.var i) (.var j) e) l S = .nx l (S.set n (.dic (wD (putA W s c)))) := by
  have hl' : (wD W).length < lim := by unfold wD; rw [List.length_map]; show W.length < 16777216; omega
  simp only [evS, he, R.st_ok]
  simp only [evE, h1, h2, R.st_ok, take, RS.opt_some, subC, hn, kyOf_nD, if_pos hl', wD_put]
theorem ev_valT {V : EV.Env} {e : LE} {l : EV.Loc} {S S1 : Sto} {ds : List D} (h : evE V e l S = .ok (.d (.tup ds)) S1) : evI V (.val e) l S = .ok (.items ds) S1 := by
  simp only [evI, h, R.bind_ok, seqD, R.opt_some]
theorem ev_valL {V : EV.Env} {e : LE} {l : EV.Loc} {S S1 : Sto} {ds : List D} (h : evE V e l S = .ok (.d (.lst ds)) S1) : evI V (.val e) l S = .ok (.items ds) S1 := by
  simp only [evI, h, R.bind_ok, seqD, R.opt_some]
theorem forGo_cons {t : LT} {b : EV.Loc → Sto → RS} {x : D} {xs : List D} {l l' l2 : EV.Loc} {S S2 : Sto} (h1 : setT t x l = some l') (h2 : b l' S = .nx l2 S2) : forGo t b (x :: xs) l S = forGo t b xs l2 S2 := by
  conv => lhs; unfold forGo
  simp only [h1, h2]
section
variable {n : Nat} {t : Nat} {δ : Stp} {E : List Nat} {m : Nat}
def stW (B : Sto) (W L : List (Nat × Nat)) : Sto := B ++ [.fzd (wD W), .dic (wD L)]
theorem add_nD (a b : Nat) : opD .add (nD a) (nD b) = some (nD (a + b)) := by
  show some (D.int ((a : Int) + (b : Int))) = _
  rw [← Int.natCast_add]; rfl
theorem many_row (hδ : OkS δ m) {B : Sto} {W : List (Nat × Nat)} {s c : Nat} {o1 o3 : Option Vl} (hv : valA W s = some c) : ∀ (r : List Nat) (L : List (Nat × Nat)) (o6 : Option Vl), (∀ x ∈ r, x < δ.length) → δ.length ≤ 1000 → OkW δ.length L →
    ∃ o6', forGo (.nm 6) (evSs (UN n) f_law_many_2) (r.map nD) [some (.d (mD t δ E)), o1, some (.ref B.length), o3, some (.ref (B.length + 1)), some (.d (nD s)), o6] (stW B W L) =
      .nx [some (.d (mD t δ E)), o1, some (.ref B.length), o3, some (.ref (B.length + 1)), some (.d (nD s)), o6'] (stW B W (rowW c r L))
  | [], L, o6, _, _, _ => ⟨o6, rfl⟩
  | x :: r, L, o6, hr, hl, hL => by
    have hx := hr x List.mem_cons_self
    have hlen := hL.len
    have a1 := sub_wD (V := UN n) (i := 4) (j := 6) (l := [some (.d (mD t δ E)), o1, some (.ref B.length), o3, some (.ref (B.length + 1)), some (.d (nD s)), some (.d (nD x))]) (S := stW B W L)
      (ev_op (ev_getW (i := 4) (j := 6) rfl rfl (g2b B _ _)) (idx_wD (i := 2) (j := 5) rfl rfl (g2a B _ _) (.inr rfl) hv) (add_nD _ _)) rfl rfl (g2b B _ _) (by omega)
    unfold stW at a1
    rw [s2b] at a1
    obtain ⟨o6', ih⟩ := many_row hδ hv r (updW L x c) (some (.d (nD x))) (fun y hy => hr y (List.mem_cons_of_mem _ hy)) hl ⟨updW_nodup hL.nd x c, updW_lt hL.lt hx⟩
    refine ⟨o6', ?_⟩
    show forGo _ _ (nD x :: r.map nD) _ _ = .nx _ (stW B W (rowW c r (updW L x c)))
    rw [← ih]
    exact forGo_cons rfl ((evSs_cons a1).trans rfl)
theorem many_mid (hδ : OkS δ m) {B : Sto} {W0 : List (Nat × Nat)} {o1 o3 : Option Vl} (hl : δ.length ≤ 1000) : ∀ (W L : List (Nat × Nat)) (o5 o6 : Option Vl), (∀ p ∈ W, valA W0 p.1 = some p.2 ∧ p.1 < δ.length) → OkW δ.length L →
    ∃ o5' o6', forGo (.nm 5) (evSs (UN n) f_law_many_3) (W.map fun p => nD p.1) [some (.d (mD t δ E)), o1, some (.ref B.length), o3, some (.ref (B.length + 1)), o5, o6] (stW B W0 L) =
      .nx [some (.d (mD t δ E)), o1, some (.ref B.length), o3, some (.ref (B.length + 1)), o5', o6'] (stW B W0 (stepW δ W L))
  | [], L, o5, o6, _, _ => ⟨o5, o6, rfl⟩
  | p :: W, L, o5, o6, hW, hL => by
    obtain ⟨hv, hp⟩ := hW p List.mem_cons_self
    obtain ⟨_, hm⟩ := row_at hp
    obtain ⟨o6', hin⟩ := many_row (n := n) (t := t) (E := E) hδ (B := B) (W := W0) (o1 := o1) (o3 := o3) hv (δ.getD p.1 []) L o6 (hδ.lt _ hm) hl hL
    have a1 := (ev_for (V := UN n) (t := .nm 6) (b := f_law_many_2) (g := .val (.idx (.idx (.var 0) (.lit (.int 1))) (.var 5))) (ds := (δ.getD p.1 []).map nD) (ev_valT (mrow (V := UN n) (i := 5) (t := t) (E := E) (l := [some (.d (mD t δ E)), o1, some (.ref B.length), o3, some (.ref (B.length + 1)), some (.d (nD p.1)), o6]) (S := stW B W0 L) rfl rfl hp))).trans hin
    obtain ⟨h1, _⟩ := rowW_ok (c := p.2) (δ.getD p.1 []) (fun t ht => hδ.lt _ hm t ht) hL
    obtain ⟨o5', o6'', ih⟩ := many_mid hδ hl W (rowW p.2 (δ.getD p.1 []) L) (some (.d (nD p.1))) o6' (fun q hq => hW q (List.mem_cons_of_mem _ hq)) h1
    refine ⟨o5', o6'', ?_⟩
    show forGo _ _ (nD p.1 :: W.map fun p => nD p.1) _ _ = .nx _ (stW B W0 (stepW δ W (rowW p.2 (δ.getD p.1 []) L)))
    rw [← ih]
    exact forGo_cons rfl ((evSs_cons a1).trans rfl)
theorem dct0 {V : EV.Env} {l : EV.Loc} {S : Sto} : evE V (.dct .nil) l S = .ok (.ref S.length) (S ++ [.dic (wD [])]) := by
  simp [evSs, evS, evE, evEs, evO, evC, evI, R.opt, RS.opt, setTV, setT, asBool, isTy, isTyD, cmV, dicOf, ditOf, keyT, peek, peeks, cmD, biV, biW, rprV, biD, idxV, idxD, slcV, slcD, mtV, mtApp, mtPure, mtTyp, mtD, opD, take, takes, keepS, runF, noX, dctR, pairsA, wD]
theorem dct1 {V : EV.Env} {l : EV.Loc} {S : Sto} : evE V (.dct (.cons (.lit (.int 0)) (.cons (.lit (.int 1)) .nil))) l S = .ok (.ref S.length) (S ++ [.dic (wD [(0, 1)])]) := by
  simp [evSs, evS, evE, evEs, evO, evC, evI, R.opt, RS.opt, setTV, setT, asBool, isTy, isTyD, cmV, dicOf, ditOf, keyT, peek, peeks, cmD, biV, biW, rprV, biD, idxV, idxD, slcV, slcD, mtV, mtApp, mtPure, mtTyp, mtD, opD, take, takes, keepS, runF, noX, dctR, pairsA, kyOf, putA, wD, nD, R.bind]
theorem filt_wD (E : List Nat) (W0 : List (Nat × Nat)) : ∀ W : List (Nat × Nat), (∀ p ∈ W, valA W0 p.1 = some p.2) → ((W.map fun p => nD p.1).filter (inE E)).map (fun y => match y with | .int s => nD ((valA W0 s.toNat).getD 0) | _ => .non) = (((W.filter fun q => decide (q.1 ∈ E)).map Prod.snd).map nD)
  | [], _ => rfl
  | p :: W, h => by
    have hp := h p List.mem_cons_self
    have ih := filt_wD E W0 W fun q hq => h q (List.mem_cons_of_mem _ hq)
    have e1 : (match nD p.1 with | .int s => nD ((valA W0 s.toNat).getD 0) | _ => .non) = nD p.2 := by
      show nD ((valA W0 p.1).getD 0) = _
      rw [hp]; rfl
    by_cases e : p.1 ∈ E
    · simp only [List.map_cons, List.filter_cons, inE_nD, e, decide_true, if_true, ih]
      rw [e1]
    · simp only [List.map_cons, List.filter_cons, inE_nD, e, decide_false, Bool.false_eq_true, if_false, ih]
theorem c_lawmany (n : Nat) (k : Nat) (hδ : OkS δ m) (hl : δ.length ≤ 1000) (hk : k ≤ 1000) (S : Sto) : CN (n + 1) 48 [.d (mD t δ E), .d (nD k)] S = .ok (.d (nD (fn δ (ind fun s => decide (s ∈ E)) k 0))) S := by
  rw [cn_at (F := d_law_many.fn) rfl]
  obtain ⟨l', S', h1, B, o3, o4, o5, o6, rfl, rfl, G, rfl⟩ := forGo_inv (t := .nm 3) (b := evSs (UN n) f_law_many_4) (fun j l S' => ∃ (B : Sto) (o3 o4 o5 o6 : Option Vl), l = [some (.d (mD t δ E)), some (.d (nD k)), some (.ref B.length), o3, o4, o5, o6] ∧ S' = B ++ [.dic (wD (waysW δ j))] ∧ ∃ G, B = S ++ G)
    (xs := rangeD 0 (k : Nat)) (k := 0) (l := [some (.d (mD t δ E)), some (.d (nD k)), some (.ref S.length), none, none, none, none]) (S := S ++ [.dic (wD [(0, 1)])]) ⟨S, none, none, none, none, rfl, rfl, [], by simp⟩ (fun i x l S' hx hI => by
      obtain ⟨B, o3, o4, o5, o6, rfl, rfl, G, rfl⟩ := hI
      generalize hB : (S ++ G : Sto) = B
      have hW := waysW_ok hδ (0 + i)
      have a1 : evS (UN n) (.asg (.nm 4) (.dct .nil)) [some (.d (mD t δ E)), some (.d (nD k)), some (.ref B.length), some (.d x), o4, o5, o6] (B ++ [.dic (wD (waysW δ (0 + i)))]) = .nx [some (.d (mD t δ E)), some (.d (nD k)), some (.ref B.length), some (.d x), some (.ref (B.length + 1)), o5, o6] (B ++ [.dic (wD (waysW δ (0 + i))), .dic (wD [])]) := by
        have := ev_asgD (V := UN n) (i := 4) (l := [some (.d (mD t δ E)), some (.d (nD k)), some (.ref B.length), some (.d x), o4, o5, o6]) (dct0 (V := UN n) (l := [some (.d (mD t δ E)), some (.d (nD k)), some (.ref B.length), some (.d x), o4, o5, o6]) (S := B ++ [.dic (wD (waysW δ (0 + i)))]))
        rw [this]
        simp
      obtain ⟨o5', o6', hmid⟩ := many_mid (n := n) (t := t) (E := E) hδ (B := B) (W0 := waysW δ (0 + i)) (o1 := some (.d (nD k))) (o3 := some (.d x)) hl (waysW δ (0 + i)) [] o5 o6 (fun p hp => ⟨valA_mem hW.nd hp, hW.lt _ (List.mem_map_of_mem hp)⟩) ⟨by simp, by simp⟩
      have w := walk_wD (V := UN n) (i := 2) (l := [some (.d (mD t δ E)), some (.d (nD k)), some (.ref B.length), some (.d x), some (.ref (B.length + 1)), o5, o6]) (S := B ++ [.dic (wD (waysW δ (0 + i))), .dic (wD [])]) (W := waysW δ (0 + i)) rfl (g2a B _ _) (.inl rfl)
      rw [s2a] at w
      have a2 := (ev_for (V := UN n) (t := .nm 5) (b := f_law_many_3) w).trans hmid
      refine ⟨_, _, _, rfl, (evSs_cons a1).trans ((evSs_cons a2).trans ((evSs_cons (ev_asgD (i := 2) (ev_var (i := 4) rfl))).trans rfl)), B ++ [.fzd (wD (waysW δ (0 + i)))], some (.d x), some (.ref (B.length + 1)), o5', o6', by simp, ?_, G ++ [.fzd (wD (waysW δ (0 + i)))], by rw [← hB]; simp⟩
      show stW B (waysW δ (0 + i)) (stepW δ (waysW δ (0 + i)) []) = _
      unfold stW
      simp only [List.append_assoc, List.singleton_append]
      rfl)
  rw [rng_len, Nat.zero_add] at h1
  generalize hB : (S ++ G : Sto) = B at h1
  have hW := waysW_ok hδ k
  have hWl := hW.len
  have hlt : B.length < (B ++ [Cell.dic (wD (waysW δ k))]).length := by simp
  have g0 : ((B ++ [.dic (wD (waysW δ k))] : Sto) : List Cell)[B.length]? = some (.dic (wD (waysW δ k))) := by simp
  have g1 : (((B ++ [.dic (wD (waysW δ k))] : Sto).set B.length (.fzd (wD (waysW δ k))) : List Cell))[B.length]? = some (.fzd (wD (waysW δ k))) := by simp
  have hc : evE (UN n) x_law_many_1 [some (.d (mD t δ E)), some (.d (nD k)), some (.ref B.length), o3, o4, o5, o6] (B ++ [.dic (wD (waysW δ k))]) = .ok (.d (.lst (((waysW δ k).filter fun q => decide (q.1 ∈ E)).map Prod.snd |>.map nD))) ((B ++ [.dic (wD (waysW δ k))] : Sto).set B.length (.fzd (wD (waysW δ k)))) := by
    refine (ev_comp_fm' (V := UN n) (elt := x_law_many_1e) (inE E) (fun y => match y with | .int s => nD ((valA (waysW δ k) s.toNat).getD 0) | _ => .non) (walk_wD (V := UN n) (i := 2) (W := waysW δ k) rfl g0 (.inl rfl)) (fun x hx => ?_) (by rw [List.length_map]; show (waysW δ k).length ≤ 16777216; omega)).trans ?_
    · obtain ⟨p, hp, rfl⟩ := List.mem_map.mp hx
      have hv := valA_mem hW.nd hp
      refine ⟨_, rfl, ev_cmp (ev_var rfl) (ev_ix2 (ev_var rfl)) (isin_row p.1 E), fun _ => ?_⟩
      show evE _ _ _ _ = .ok (.d (nD ((valA (waysW δ k) p.1).getD 0))) _
      rw [hv]
      exact idx_wD (i := 2) (j := 5) rfl rfl g1 (.inr rfl) hv
    · rw [filt_wD E (waysW δ k) _ fun p hp => valA_mem hW.nd hp]
  have hs : (((waysW δ k).filter fun q => decide (q.1 ∈ E)).map Prod.snd).sum = fn δ (ind fun s => decide (s ∈ E)) k 0 := by
    rw [← dot_ind fun s => decide (s ∈ E)]
    exact ways_dot hδ (ind fun s => decide (s ∈ E)) k 0
  have hb := ev_bi1 (b := .sum) hc (sum_nD _)
  rw [hs] at hb
  refine run_d rfl ((evSs_cons (ev_asgD dct1)).trans ((evSs_cons ((ev_for (ev_rng1 (ev_var rfl) (wide_nat (by omega)))).trans h1)).trans (evSs_ret (ev_ret hb)))) ?_
  rw [← hB]
  simp
end
end K04
end

section
set_option Elab.async false
set_option linter.all false
set_option maxRecDepth 100000
set_option maxHeartbeats 4000000
namespace K04
open PySem EV
def pD (p : Pr) : D := .tup [nD p.1, nD p.2]
def kP (p : Pr) : List Int := [(p.1 : Int), (p.2 : Int)]
theorem keyT_pD (p : Pr) : keyT (pD p) = some (kP p) := rfl
theorem kP_eq (p q : Pr) : (kP p = kP q) = (p = q) := by
  apply propext
  constructor
  · intro h
    simp only [kP, List.cons.injEq, and_true] at h
    exact Prod.ext (by omega) (by omega)
  · intro h; rw [h]
def tDk : Nat → List Pr → List (List Int × D)
  | _, [] => []
  | k, p :: o => (kP p, nD k) :: tDk (k + 1) o
theorem tDk_app (q : Pr) : ∀ (o : List Pr) (k : Nat), tDk k (o ++ [q]) = tDk k o ++ [(kP q, nD (k + o.length))]
  | [], k => rfl
  | p :: o, k => by
    simp only [List.cons_append, tDk, tDk_app q o (k + 1), List.length_cons]
    rw [show k + 1 + o.length = k + (o.length + 1) from by omega]
theorem tDk_in {q : Pr} : ∀ (o : List Pr) (k : Nat), q ∈ o → valA (tDk k o) (kP q) = some (nD (k + o.idxOf q))
  | [], k, h => by cases h
  | p :: o, k, h => by
    by_cases e : p = q
    · subst e
      simp [tDk, valA]
    · have hq : q ∈ o := by
        rcases List.mem_cons.mp h with z | z
        · exact absurd z.symm e
        · exact z
      have ih := tDk_in o (k + 1) hq
      have e2 : valA (tDk k (p :: o)) (kP q) = valA (tDk (k + 1) o) (kP q) := by
        unfold valA
        simp only [tDk]
        rw [List.find?_cons_of_neg (by simpa [kP_eq] using e)]
      rw [e2, ih, List.idxOf_cons]
      have e3 : (p == q) = false := by simpa using e
      rw [e3]
      simp only [cond_false]
      rw [show k + 1 + o.idxOf q = k + (o.idxOf q + 1) from by omega]
theorem tDk_out {q : Pr} : ∀ (o : List Pr) (k : Nat), q ∉ o → ∀ x ∈ tDk k o, x.1 ≠ kP q
  | [], k, _, x, h => by cases h
  | p :: o, k, hq, x, h => by
    simp only [tDk, List.mem_cons] at h
    rcases h with rfl | h
    · intro e
      rw [kP_eq] at e
      exact hq (by rw [← e]; exact List.mem_cons_self)
    · exact tDk_out o (k + 1) (fun z => hq (List.mem_cons_of_mem _ z)) x h
theorem tD_has (o : List Pr) (q : Pr) : (valA (tDk 0 o) (kP q)).isSome = decide (q ∈ o) := by
  by_cases h : q ∈ o
  · rw [tDk_in o 0 h, decide_eq_true h]; rfl
  · rw [valA_none (tDk_out o 0 h), decide_eq_false h]; rfl
theorem tD_put {o : List Pr} {q : Pr} (h : q ∉ o) : putA (tDk 0 o) (kP q) (nD o.length) = tDk 0 (o ++ [q]) := by
  rw [putA_new, tDk_app, Nat.zero_add]
  intro z
  obtain ⟨x, hx, e⟩ := List.mem_map.mp z
  exact tDk_out o 0 h x hx e
theorem tDk_len : ∀ (o : List Pr) (k : Nat), (tDk k o).length = o.length
  | [], _ => rfl
  | p :: o, k => by simp [tDk, tDk_len o]
theorem zip_pD : ∀ a b : List Nat, zipD (a.map nD) (b.map nD) = (a.zip b).map pD
  | [], b => by simp [zipD]
  | x :: a, [] => by simp [zipD]
  | x :: a, y :: b => by
    simp only [List.map_cons, zipD, List.zip_cons_cons, zip_pD a b]
    rfl
/-! ### places behind a store -/
theorem gA {α : Type} (S G : List α) (i : Nat) : (S ++ G)[S.length + i]? = G[i]? := by
  rw [List.getElem?_append_right (by omega)]
  congr 1
  omega
theorem sA {α : Type} (S G : List α) (i : Nat) (d : α) : (S ++ G).set (S.length + i) d = S ++ G.set i d := by
  rw [List.set_append_right _ _ (by omega)]
  congr 2
  omega
/-! ### generic accesses -/
theorem notin_dit {V : EV.Env} {i j a : Nat} {l : EV.Loc} {S : Sto} {q : Pr} {o : List Pr} (hi : l[i]? = some (some (.d (pD q)))) (hj : l[j]? = some (some (.ref a))) (hS : (S : List Cell)[a]? = some (.dit (tDk 0 o))) : evE V (.cmp .notin (.var i) (.var j)) l S = .ok (.d (.bl (!decide (q ∈ o)))) S := by
  simp only [evE, hi, hj, R.bind_ok, cmV, dicOf, ditOf, hS, peek, Option.bind_some, keyT_pD, tD_has, R.opt_some]
theorem idx_dit {V : EV.Env} {i j a : Nat} {l : EV.Loc} {S : Sto} {q : Pr} {o : List Pr} (hi : l[i]? = some (some (.ref a))) (hj : l[j]? = some (some (.d (pD q)))) (hS : (S : List Cell)[a]? = some (.dit (tDk 0 o))) (hq : q ∈ o) : evE V (.idx (.var i) (.var j)) l S = .ok (.d (nD (o.idxOf q))) S := by
  have e := tDk_in o 0 hq
  rw [Nat.zero_add] at e
  simp only [evE, hi, hj, R.bind_ok, idxV, dicOf, ditOf, hS, peek, Option.bind_some, keyT_pD, e, R.opt_some]
theorem sub_dit {V : EV.Env} {e : LE} {i j n : Nat} {l : EV.Loc} {S : Sto} {q : Pr} {o : List Pr} (he : evE V e l S = .ok (.d (nD o.length)) S) (h1 : l[i]? = some (some (.ref n))) (h2 : l[j]? = some (some (.d (pD q)))) (hn : (S : List Cell)[n]? = some (.dit (tDk 0 o))) (hq : q ∉ o) (hl : o.length < 100000) :
    evS V (.sub (.var i) (.var j) e) l S = .nx l (S.set n (.dit (tDk 0 (o ++ [q])))) := by
  have hl' : (tDk 0 o).length < lim := by rw [tDk_len]; show o.length < 16777216; omega
  simp only [evS, he, R.st_ok]
  simp only [evE, h1, h2, R.st_ok, take, RS.opt_some, subC, hn, keyT_pD, if_pos hl', tD_put hq]
/-- the store while numbers are given -/
def stN (S : Sto) (o : List Pr) (ρ : Stp) (G : Sto) : Sto := S ++ (.lst (o.map pD) :: .dit (tDk 0 o) :: .lst (ρ.map rowD) :: G)
theorem n0 (S : Sto) (o : List Pr) (ρ : Stp) (G : Sto) : (stN S o ρ G : List Cell)[S.length + 0]? = some (.lst (o.map pD)) := gA S _ 0
theorem n1 (S : Sto) (o : List Pr) (ρ : Stp) (G : Sto) : (stN S o ρ G : List Cell)[S.length + 1]? = some (.dit (tDk 0 o)) := gA S _ 1
theorem n2 (S : Sto) (o : List Pr) (ρ : Stp) (G : Sto) : (stN S o ρ G : List Cell)[S.length + 2]? = some (.lst (ρ.map rowD)) := gA S _ 2
theorem n3 (S : Sto) (o : List Pr) (ρ : Stp) (G : Sto) (c : Cell) : (stN S o ρ (G ++ [c]) : List Cell)[S.length + (G.length + 3)]? = some c := by
  unfold stN
  rw [gA]
  simp
theorem w3 (S : Sto) (o : List Pr) (ρ : Stp) (G : Sto) (c d : Cell) : (stN S o ρ (G ++ [c])).set (S.length + (G.length + 3)) d = stN S o ρ (G ++ [d]) := by
  unfold stN
  rw [sA]
  simp
theorem w2 (S : Sto) (o : List Pr) (ρ ρ' : Stp) (G : Sto) : (stN S o ρ G).set (S.length + 2) (.lst (ρ'.map rowD)) = stN S o ρ' G := by
  unfold stN
  rw [sA]
  rfl
theorem w01 (S : Sto) (o o' : List Pr) (ρ : Stp) (G : Sto) : ((stN S o ρ G).set (S.length + 1) (.dit (tDk 0 o'))).set (S.length + 0) (.lst (o'.map pD)) = stN S o' ρ G := by
  unfold stN
  rw [sA, sA]
  rfl
section
variable {n : Nat} {t u : Nat} {δ ε : Stp} {E F : List Nat} {m : Nat}
def LN (S : Sto) (cl : Option Vl) (at_ : Option Vl) (k : Nat) (o8 : Option Vl) : EV.Loc := [some (.d (pD (0, 0))), cl, some (.d (nD 200)), some (.ref (S.length + 0)), some (.ref (S.length + 1)), some (.ref (S.length + 2)), at_, some (.ref (S.length + (k + 3))), o8]
theorem num_body {S : Sto} {cl at_ : Option Vl} {G : Sto} {o : List Pr} {ρ : Stp} {rw_ : List Nat} (q : Pr) (hl : o.length < 1000) (hr : rw_.length < 1000) :
    evSs (UN n) f_numbered_1 (LN S cl at_ G.length (some (.d (pD q)))) (stN S o ρ (G ++ [.lst (rw_.map nD)])) =
      .nx (LN S cl at_ G.length (some (.d (pD q)))) (stN S (if q ∈ o then o else o ++ [q]) ρ (G ++ [.lst ((rw_ ++ [(if q ∈ o then o else o ++ [q]).idxOf q]).map nD)])) := by
  have c := notin_dit (V := UN n) (i := 8) (j := 4) (l := LN S cl at_ G.length (some (.d (pD q)))) (S := stN S o ρ (G ++ [.lst (rw_.map nD)])) (q := q) (o := o) rfl rfl (n1 S o ρ _)
  have last : ∀ o' : List Pr, q ∈ o' → evS (UN n) (.ex (.mt .append (.var 7) (.cons (.idx (.var 4) (.var 8)) .nil))) (LN S cl at_ G.length (some (.d (pD q)))) (stN S o' ρ (G ++ [.lst (rw_.map nD)])) = .nx (LN S cl at_ G.length (some (.d (pD q)))) (stN S o' ρ (G ++ [.lst ((rw_ ++ [o'.idxOf q]).map nD)])) := fun o' hq => by
    have := ev_append (V := UN n) (i := 7) (l := LN S cl at_ G.length (some (.d (pD q)))) (S := stN S o' ρ (G ++ [.lst (rw_.map nD)])) rfl (n3 S o' ρ G _) (idx_dit (i := 4) (j := 8) (q := q) (o := o') rfl rfl (n1 S o' ρ _) hq) (by rw [List.length_map]; show rw_.length < 16777216; omega)
    rw [this, w3]
    simp
  by_cases e : q ∈ o
  · rw [decide_eq_true e] at c
    rw [if_pos e]
    exact (evSs_cons ((ev_if_f c).trans rfl)).trans ((evSs_cons (last o e)).trans rfl)
  · rw [decide_eq_false e] at c
    rw [if_neg e]
    have l0 := ev_lenR (V := UN n) (i := 3) (l := LN S cl at_ G.length (some (.d (pD q)))) (S := stN S o ρ (G ++ [.lst (rw_.map nD)])) rfl (n0 S o ρ _)
    rw [List.length_map] at l0
    have a1 := sub_dit (V := UN n) (i := 4) (j := 8) (l := LN S cl at_ G.length (some (.d (pD q)))) (S := stN S o ρ (G ++ [.lst (rw_.map nD)])) l0 rfl rfl (n1 S o ρ _) e (by omega)
    have h0 : (((stN S o ρ (G ++ [.lst (rw_.map nD)])).set (S.length + 1) (.dit (tDk 0 (o ++ [q]))) : Sto) : List Cell)[S.length + 0]? = some (.lst (o.map pD)) := by
      unfold stN
      rw [sA, gA]
      rfl
    have a2 := ev_append (V := UN n) (i := 3) (e := .var 8) (l := LN S cl at_ G.length (some (.d (pD q)))) rfl h0 (ev_var rfl) (by rw [List.length_map]; show o.length < 16777216; omega)
    have e3 : o.map pD ++ [pD q] = (o ++ [q]).map pD := by simp
    rw [e3, w01] at a2
    exact (evSs_cons ((ev_if_t c).trans ((evSs_cons a1).trans ((evSs_cons a2).trans rfl)))).trans ((evSs_cons (last (o ++ [q]) (by simp))).trans rfl)
theorem num_row {S : Sto} {cl at_ : Option Vl} {G : Sto} {ρ : Stp} : ∀ (ps : List Pr) (o : List Pr) (rw_ : List Nat) (o8 : Option Vl), (∀ p ∈ ps, p.1 < 1000 ∧ p.2 < 1000) → OkP 1000 1000 o → o.length + ps.length < 1000 → rw_.length + ps.length < 1000 →
    ∃ o8', forGo (.nm 8) (evSs (UN n) f_numbered_1) (ps.map pD) (LN S cl at_ G.length o8) (stN S o ρ (G ++ [.lst (rw_.map nD)])) =
      .nx (LN S cl at_ G.length o8') (stN S (exP ps o) ρ (G ++ [.lst ((rw_ ++ ps.map fun q => (exP ps o).idxOf q).map nD)]))
  | [], o, rw_, o8, _, _, _, _ => ⟨o8, by simp [forGo, exP]⟩
  | q :: ps, o, rw_, o8, hp, ho, h1, h2 => by
    simp only [List.length_cons] at h1 h2
    have b := num_body (n := n) (S := S) (cl := cl) (at_ := at_) (G := G) (o := o) (ρ := ρ) (rw_ := rw_) q (by omega) (by omega)
    have ho1 := exP_ok [q] (fun p hp' => by rw [List.mem_singleton.mp hp']; exact hp q List.mem_cons_self) ho
    have eo : exP [q] o = if q ∈ o then o else o ++ [q] := rfl
    rw [eo] at ho1
    have hl1 : (if q ∈ o then o else o ++ [q]).length ≤ o.length + 1 := by split <;> simp
    obtain ⟨o8', ih⟩ := num_row ps (if q ∈ o then o else o ++ [q]) (rw_ ++ [(if q ∈ o then o else o ++ [q]).idxOf q]) (some (.d (pD q))) (fun p hp' => hp p (List.mem_cons_of_mem _ hp')) ho1.1 (by omega) (by simp; omega)
    obtain ⟨_, pre, _⟩ := exP_ok ps (fun p hp' => hp p (List.mem_cons_of_mem _ hp')) ho1.1
    have ei : (exP (q :: ps) o).idxOf q = (if q ∈ o then o else o ++ [q]).idxOf q := idx_pre pre (ho1.2.2 q List.mem_cons_self)
    refine ⟨o8', ?_⟩
    rw [List.map_cons, forGo_cons rfl b]
    refine ih.trans ?_
    rw [List.map_cons, ei, List.append_assoc]
    rfl
end
end K04
end

section
set_option Elab.async false
set_option linter.all false
set_option maxRecDepth 100000
set_option maxHeartbeats 4000000
namespace K04
open PySem EV
section
variable {n : Nat} {t u : Nat} {δ ε : Stp} {E F : List Nat} {m : Nat}
theorem c_pairs (n : Nat) {p : Pr} (h1 : p.1 < δ.length) (h2 : p.2 < ε.length) (S : Sto) : CN (n + 1) 27 [.d (mD t δ E), .d (mD u ε F), .d (pD p)] S = .ok (.d (.lst ((prs δ ε p).map pD))) S := by
  rw [cn_at (F := d_pairs_from.fn) rfl]
  obtain ⟨r1, _⟩ := row_at h1
  obtain ⟨r2, _⟩ := row_at h2
  have a1 : evE (UN n) (.idx (.idx (.var 0) (.lit (.int 1))) (.idx (.var 2) (.lit (.int 0)))) [some (.d (mD t δ E)), some (.d (mD u ε F)), some (.d (pD p))] S = .ok (.d (rowD (δ.getD p.1 []))) S :=
    ev_ixT (ds := δ.map rowD) (k := p.1) (ev_ix1 (ev_var rfl)) (ev_ix0 (ev_var rfl)) (by rw [List.getElem?_map, r1]; rfl)
  have a2 : evE (UN n) (.idx (.idx (.var 1) (.lit (.int 1))) (.idx (.var 2) (.lit (.int 1)))) [some (.d (mD t δ E)), some (.d (mD u ε F)), some (.d (pD p))] S = .ok (.d (rowD (ε.getD p.2 []))) S :=
    ev_ixT (ds := ε.map rowD) (k := p.2) (ev_ix1 (ev_var rfl)) (ev_ix1 (ev_var rfl)) (by rw [List.getElem?_map, r2]; rfl)
  have a3 : evE (UN n) (.lzip (.idx (.idx (.var 0) (.lit (.int 1))) (.idx (.var 2) (.lit (.int 0)))) (.idx (.idx (.var 1) (.lit (.int 1))) (.idx (.var 2) (.lit (.int 1))))) [some (.d (mD t δ E)), some (.d (mD u ε F)), some (.d (pD p))] S = .ok (.d (.lst ((prs δ ε p).map pD))) S := by
    unfold prs
    rw [← zip_pD]
    conv => lhs; unfold evE
    simp only [a1, a2, R.bind_ok, rowD]
  exact run_d rfl (evSs_ret (ev_ret a3)) (take_self _)
theorem c_lam53 (n : Nat) {p : Pr} (h1 : p.1 < δ.length) (h2 : p.2 < ε.length) (S : Sto) : CN (n + 2) 53 [.d (mD t δ E), .d (mD u ε F), .d (pD p)] S = .ok (.d (.lst ((prs δ ε p).map pD))) S := by
  rw [cn_at (F := (T.lds.getD 0 ⟨[], 0, .lit .non⟩).fn) rfl]
  exact run_lamD rfl rfl (cn_callN (evEs_cons (ev_var rfl) (evEs_cons (ev_var rfl) (evEs_cons (ev_var rfl) evEs_nil))) (c_pairs n h1 h2 S))
theorem ev_callv1 {V : EV.Env} {i f : Nat} {cs : List Vl} {a : LE} {l : EV.Loc} {S S1 : Sto} {x : D} {r : EV.R Vl} (hi : l[i]? = some (some (.clo f cs))) (h1 : evE V a l S = .ok (.d x) S1) (h : V.cf f (cs ++ [.d x]) S1 = r) : evE V (.callv i (.cons a .nil)) l S = r := by
  simp only [evE, hi, evEs, h1, R.bind_ok]
  rw [← h]
  simp [plainV]
theorem rows_pre {d : Nat} {o o' : List Pr} (hc : clsd δ ε d o) (hp : o <+: o') (hd : d ≤ o.length) : (o'.take d).map (rowP δ ε o') = (o.take d).map (rowP δ ε o) := by
  have e : o'.take d = o.take d := by
    obtain ⟨r, rfl⟩ := hp
    exact List.take_append_of_le_length hd
  rw [e]
  refine List.map_congr_left fun p hm => ?_
  obtain ⟨i, hi⟩ := List.mem_iff_getElem?.mp hm
  have hlt := (List.getElem?_eq_some_iff.mp hi).1
  rw [List.length_take] at hlt
  rw [List.getElem?_take_of_lt (by omega)] at hi
  unfold rowP
  exact List.map_congr_left fun q hq => idx_pre hp (hc i p (by omega) hi q hq)
theorem ev_tupR {V : EV.Env} {i a : Nat} {l : EV.Loc} {S : Sto} {ds : List D} (hi : l[i]? = some (some (.ref a))) (hS : (S : List Cell)[a]? = some (.lst ds)) : evE V (.bi .tup (.cons (.var i) .nil)) l S = .ok (.d (.tup ds)) S := by
  have e : biV .tup [.ref a] S = some (.tup ds) := by
    have eb : ∀ vs S, biV .tup vs S = biW .tup vs S := fun _ _ => rfl
    rw [eb]
    simp [biW, dicOf, hS, peeks, peek, biD]
  simp only [evE, evEs, hi, R.bind_ok, e, R.opt_some]
theorem gt_nD (a b : Nat) : cmD .gt (nD a) (nD b) = some (decide (b < a)) := congrArg some (decide_eq_decide.mpr (by omega))
theorem OkP.mono {n1 n2 k1 k2 : Nat} {o : List Pr} (h : OkP n1 n2 o) (h1 : n1 ≤ k1) (h2 : n2 ≤ k2) : OkP k1 k2 o := ⟨h.nd, fun p hp => ⟨Nat.lt_of_lt_of_le (h.lt p hp).1 h1, Nat.lt_of_lt_of_le (h.lt p hp).2 h2⟩⟩
theorem num_while (hδ : OkS δ m) (hε : OkS ε m) (hm : m ≤ 100) (hl : δ.length ≤ 5) (hl2 : ε.length ≤ 5) {S : Sto} : ∀ (k d fuel : Nat) (o : List Pr) (G : Sto) (o7 o8 : Option Vl), OkP δ.length ε.length o → clsd δ ε d o → d ≤ o.length → δ.length * ε.length ≤ d + k → k < fuel →
    ∃ d' G' o7' o8', whileGo (cF (UN (n + 2)) c_numbered_2) (evSs (UN (n + 2)) w_numbered_3) fuel [some (.d (pD (0, 0))), some (.clo 53 [.d (mD t δ E), .d (mD u ε F)]), some (.d (nD 200)), some (.ref (S.length + 0)), some (.ref (S.length + 1)), some (.ref (S.length + 2)), some (.d (nD d)), o7, o8] (stN S o ((o.take d).map (rowP δ ε o)) G) =
      .nx [some (.d (pD (0, 0))), some (.clo 53 [.d (mD t δ E), .d (mD u ε F)]), some (.d (nD 200)), some (.ref (S.length + 0)), some (.ref (S.length + 1)), some (.ref (S.length + 2)), some (.d (nD d')), o7', o8'] (stN S (numO δ ε k d o) ((numO δ ε k d o).map (rowP δ ε (numO δ ε k d o))) G')
  | k, d, 0, o, G, o7, o8, _, _, _, _, hf => absurd hf (by omega)
  | k, d, fuel + 1, o, G, o7, o8, h, hc, hd, hk, hf => by
    have hle := h.le
    have h25 : δ.length * ε.length ≤ 25 := Nat.mul_le_mul hl hl2
    have c : evE (UN (n + 2)) c_numbered_2 [some (.d (pD (0, 0))), some (.clo 53 [.d (mD t δ E), .d (mD u ε F)]), some (.d (nD 200)), some (.ref (S.length + 0)), some (.ref (S.length + 1)), some (.ref (S.length + 2)), some (.d (nD d)), o7, o8] (stN S o ((o.take d).map (rowP δ ε o)) G) = .ok (.d (.bl (decide (d < (o.map pD).length)))) (stN S o ((o.take d).map (rowP δ ε o)) G) :=
      ev_cmp (ev_var rfl) (ev_lenR (i := 3) rfl (n0 S _ _ _)) (lt_nD _ _)
    rw [List.length_map] at c
    cases e : o[d]? with
    | none =>
      have : o.length ≤ d := List.getElem?_eq_none_iff.mp e
      have ed : d = o.length := by omega
      rw [decide_eq_false (by omega)] at c
      have e2 : numO δ ε k d o = o := by
        cases k with
        | zero => rfl
        | succ k => unfold numO; rw [e]
      refine ⟨d, G, o7, o8, ?_⟩
      rw [e2]
      refine (while_f c).trans ?_
      rw [ed, List.take_length]
    | some p =>
      have hlt := (List.getElem?_eq_some_iff.mp e).1
      rw [decide_eq_true hlt] at c
      cases k with
      | zero => omega
      | succ k =>
        obtain ⟨s1, s2, s3⟩ := num_step hδ hε h hc e
        have hp := List.mem_of_getElem? e
        obtain ⟨p1, p2⟩ := h.lt p hp
        obtain ⟨q1, _, _, q4, _⟩ := prs_ok hδ hε p1 p2
        have hle2 := s1.le
        have hlen := s2.length_le
        obtain ⟨o8', hrow⟩ := num_row (n := n + 2) (S := S) (cl := some (.clo 53 [.d (mD t δ E), .d (mD u ε F)])) (at_ := some (.d (nD d))) (G := G) (ρ := (o.take d).map (rowP δ ε o)) (prs δ ε p) o [] o8 (fun q hq => ⟨by have := (q4 q hq).1; omega, by have := (q4 q hq).2; omega⟩) (h.mono (by omega) (by omega)) (by omega) (by simp; omega)
        have a1 : evS (UN (n + 2)) (.asg (.nm 7) (.thaw (.lst .nil))) [some (.d (pD (0, 0))), some (.clo 53 [.d (mD t δ E), .d (mD u ε F)]), some (.d (nD 200)), some (.ref (S.length + 0)), some (.ref (S.length + 1)), some (.ref (S.length + 2)), some (.d (nD d)), o7, o8] (stN S o ((o.take d).map (rowP δ ε o)) G) =
            .nx (LN S (some (.clo 53 [.d (mD t δ E), .d (mD u ε F)])) (some (.d (nD d))) G.length o8) (stN S o ((o.take d).map (rowP δ ε o)) (G ++ [.lst (([] : List Nat).map nD)])) := by
          have z := ev_asgD (V := UN (n + 2)) (i := 7) (l := [some (.d (pD (0, 0))), some (.clo 53 [.d (mD t δ E), .d (mD u ε F)]), some (.d (nD 200)), some (.ref (S.length + 0)), some (.ref (S.length + 1)), some (.ref (S.length + 2)), some (.d (nD d)), o7, o8]) (ev_thaw (S := stN S o ((o.take d).map (rowP δ ε o)) G) (ev_lstN (es := .nil) (ds := []) evEs_nil))
          rw [z]
          have el : (stN S o ((o.take d).map (rowP δ ε o)) G).length = S.length + (G.length + 3) := by unfold stN; simp
          rw [el]
          unfold stN
          simp [LN]
        have hcall : evE (UN (n + 2)) (.callv 1 (.cons (.idx (.var 3) (.var 6)) .nil)) (LN S (some (.clo 53 [.d (mD t δ E), .d (mD u ε F)])) (some (.d (nD d))) G.length o8) (stN S o ((o.take d).map (rowP δ ε o)) (G ++ [.lst (([] : List Nat).map nD)])) = .ok (.d (.lst ((prs δ ε p).map pD))) (stN S o ((o.take d).map (rowP δ ε o)) (G ++ [.lst (([] : List Nat).map nD)])) :=
          ev_callv1 (f := 53) (cs := [.d (mD t δ E), .d (mD u ε F)]) rfl (ev_idxR (i := 3) (j := 6) (k := d) (x := pD p) rfl rfl (n0 S _ _ _) (by rw [List.getElem?_map, e]; rfl)) (c_lam53 n p1 p2 _)
        have a2 := (ev_for (V := UN (n + 2)) (t := .nm 8) (b := f_numbered_1) (ev_valL hcall)).trans hrow
        generalize hO : exP (prs δ ε p) o = o' at *
        have a3 : evE (UN (n + 2)) (.cmp .gt (.bi .len (.cons (.var 3) .nil)) (.var 2)) (LN S (some (.clo 53 [.d (mD t δ E), .d (mD u ε F)])) (some (.d (nD d))) G.length o8') (stN S o' ((o.take d).map (rowP δ ε o)) (G ++ [.lst (([] ++ (prs δ ε p).map fun q => o'.idxOf q).map nD)])) = .ok (.d (.bl false)) (stN S o' ((o.take d).map (rowP δ ε o)) (G ++ [.lst (([] ++ (prs δ ε p).map fun q => o'.idxOf q).map nD)])) := by
          have z := ev_cmp (V := UN (n + 2)) (ev_lenR (V := UN (n + 2)) (i := 3) (l := LN S (some (.clo 53 [.d (mD t δ E), .d (mD u ε F)])) (some (.d (nD d))) G.length o8') rfl (n0 S o' ((o.take d).map (rowP δ ε o)) (G ++ [.lst (([] ++ (prs δ ε p).map fun q => o'.idxOf q).map nD)]))) (ev_var (i := 2) (v := .d (nD 200)) rfl) (gt_nD _ _)
          rw [List.length_map, decide_eq_false (by omega)] at z
          exact z
        have a4 : evS (UN (n + 2)) (.ex (.mt .append (.var 5) (.cons (.bi .tup (.cons (.var 7) .nil)) .nil))) (LN S (some (.clo 53 [.d (mD t δ E), .d (mD u ε F)])) (some (.d (nD d))) G.length o8') (stN S o' ((o.take d).map (rowP δ ε o)) (G ++ [.lst (([] ++ (prs δ ε p).map fun q => o'.idxOf q).map nD)])) =
            .nx (LN S (some (.clo 53 [.d (mD t δ E), .d (mD u ε F)])) (some (.d (nD d))) G.length o8') (stN S o' ((o'.take (d + 1)).map (rowP δ ε o')) (G ++ [.lst (([] ++ (prs δ ε p).map fun q => o'.idxOf q).map nD)])) := by
          have ht : evE (UN (n + 2)) (.bi .tup (.cons (.var 7) .nil)) (LN S (some (.clo 53 [.d (mD t δ E), .d (mD u ε F)])) (some (.d (nD d))) G.length o8') (stN S o' ((o.take d).map (rowP δ ε o)) (G ++ [.lst (([] ++ (prs δ ε p).map fun q => o'.idxOf q).map nD)])) = .ok (.d (rowD (rowP δ ε o' p))) (stN S o' ((o.take d).map (rowP δ ε o)) (G ++ [.lst (([] ++ (prs δ ε p).map fun q => o'.idxOf q).map nD)])) := by
            exact ev_tupR (i := 7) rfl (n3 S o' ((o.take d).map (rowP δ ε o)) G (.lst (([] ++ (prs δ ε p).map fun q => o'.idxOf q).map nD)))
          have z := ev_append (V := UN (n + 2)) (i := 5) (l := LN S (some (.clo 53 [.d (mD t δ E), .d (mD u ε F)])) (some (.d (nD d))) G.length o8') rfl (n2 S _ _ _) ht (by rw [List.length_map, List.length_map, List.length_take]; show min d o.length < 16777216; omega)
          have er : ((o.take d).map (rowP δ ε o)).map rowD ++ [rowD (rowP δ ε o' p)] = ((o'.take (d + 1)).map (rowP δ ε o')).map rowD := by
            have e1 : o'[d]? = some p := by
              obtain ⟨r, hr⟩ := s2
              rw [← hr, List.getElem?_append_left hlt]
              exact e
            rw [List.take_succ, e1, List.map_append, rows_pre hc s2 hd]
            simp
          rw [er, w2] at z
          exact z
        have a5 := ev_asgD (V := UN (n + 2)) (i := 6) (S := stN S o' ((o'.take (d + 1)).map (rowP δ ε o')) (G ++ [.lst (([] ++ (prs δ ε p).map fun q => o'.idxOf q).map nD)])) (ev_op (ev_var (i := 6) (l := LN S (some (.clo 53 [.d (mD t δ E), .d (mD u ε F)])) (some (.d (nD d))) G.length o8') rfl) ev_lit (add1_nD d))
        have hb : evSs (UN (n + 2)) w_numbered_3 [some (.d (pD (0, 0))), some (.clo 53 [.d (mD t δ E), .d (mD u ε F)]), some (.d (nD 200)), some (.ref (S.length + 0)), some (.ref (S.length + 1)), some (.ref (S.length + 2)), some (.d (nD d)), o7, o8] (stN S o ((o.take d).map (rowP δ ε o)) G) = _ :=
          (evSs_cons a1).trans ((evSs_cons a2).trans ((evSs_cons ((ev_if_f a3).trans rfl)).trans ((evSs_cons a4).trans ((evSs_cons a5).trans rfl))))
        obtain ⟨d', G', o7', o8'', ih⟩ := num_while hδ hε hm hl hl2 k (d + 1) fuel o' (G ++ [.lst (([] ++ (prs δ ε p).map fun q => o'.idxOf q).map nD)]) (some (.ref (S.length + (G.length + 3)))) o8' s1 s3 (by omega) (by omega) (by omega)
        refine ⟨d', G', o7', o8'', ?_⟩
        have e2 : numO δ ε (k + 1) d o = numO δ ε k (d + 1) o' := by
          conv => lhs; unfold numO
          rw [e]
          show numO δ ε k (d + 1) (exP (prs δ ε p) o) = _
          rw [hO]
        rw [e2, ← ih]
        exact while_t c hb
end
end K04
end

section
set_option Elab.async false
set_option linter.all false
set_option maxRecDepth 100000
set_option maxHeartbeats 4000000
namespace K04
open PySem EV
section
variable {n : Nat} {t u : Nat} {δ ε : Stp} {E F : List Nat} {m : Nat}
theorem ev_evT {V : EV.Env} {i j a b : Nat} {l : EV.Loc} {S : Sto} {xs ys : List D} (hi : l[i]? = some (some (.ref a))) (hj : l[j]? = some (some (.ref b))) (ha : (S : List Cell)[a]? = some (.lst xs)) (hb : (S : List Cell)[b]? = some (.lst ys)) (hab : a ≠ b) :
    evE V (.tup (.cons (.var i) (.cons (.var j) .nil))) l S = .ok (.d (.tup [.lst xs, .lst ys])) ((S.set a (.fzn xs)).set b (.fzn ys)) := by
  have hb' : (S.set a (.fzn xs) : List Cell)[b]? = some (.lst ys) := by rw [List.getElem?_set_ne hab]; exact hb
  simp only [evE, evEs, hi, hj, R.bind_ok, takes, take, ha, hb', R.opt_some]
theorem c_numbered (n : Nat) (hδ : OkS δ m) (hε : OkS ε m) (hm : m ≤ 100) (hl : δ.length ≤ 5) (hl2 : ε.length ≤ 5) (S : Sto) : CN (n + 3) 26 [.d (pD (0, 0)), .clo 53 [.d (mD t δ E), .d (mD u ε F)], .d (nD 200)] S = .ok (.d (.tup [.lst ((ordO δ ε).map pD), .lst ((rowsO δ ε).map rowD)])) S := by
  rw [cn_at (F := d_numbered.fn) rfl]
  have h25 : δ.length * ε.length ≤ 25 := Nat.mul_le_mul hl hl2
  obtain ⟨z1, z2⟩ := ord0 hδ hε
  obtain ⟨d', G', o7, o8, h⟩ := num_while (n := n) (t := t) (u := u) (E := E) (F := F) hδ hε hm hl hl2 (S := S) (δ.length * ε.length) 0 100 [(0, 0)] [] none none z1 z2 (Nat.zero_le _) (by omega) (by omega)
  have p0 : evS (UN (n + 2)) (.parN [3, 4, 5, 6] (.cons (.thaw (.lst (.cons (.var 0) .nil))) (.cons (.dct (.cons (.var 0) (.cons (.lit (.int 0)) .nil))) (.cons (.thaw (.lst .nil)) (.cons (.lit (.int 0)) .nil))))) [some (.d (pD (0, 0))), some (.clo 53 [.d (mD t δ E), .d (mD u ε F)]), some (.d (nD 200)), none, none, none, none, none, none] S =
      .nx [some (.d (pD (0, 0))), some (.clo 53 [.d (mD t δ E), .d (mD u ε F)]), some (.d (nD 200)), some (.ref (S.length + 0)), some (.ref (S.length + 1)), some (.ref (S.length + 2)), some (.d (nD 0)), none, none] (stN S [(0, 0)] [] []) := by
    have e1 := ev_thaw (V := UN (n + 2)) (S := S) (ev_lst1 (ev_var (i := 0) (l := [some (.d (pD (0, 0))), some (.clo 53 [.d (mD t δ E), .d (mD u ε F)]), some (.d (nD 200)), none, none, none, none, none, none]) rfl))
    have e2 : evE (UN (n + 2)) (.dct (.cons (.var 0) (.cons (.lit (.int 0)) .nil))) [some (.d (pD (0, 0))), some (.clo 53 [.d (mD t δ E), .d (mD u ε F)]), some (.d (nD 200)), none, none, none, none, none, none] (S ++ [.lst [pD (0, 0)]]) = .ok (.ref (S ++ [Cell.lst [pD (0, 0)]]).length) ((S ++ [.lst [pD (0, 0)]]) ++ [.dit (tDk 0 [(0, 0)])]) := by
      simp [evSs, evS, evE, evEs, evO, evC, evI, R.opt, RS.opt, setTV, setT, asBool, isTy, isTyD, cmV, dicOf, ditOf, keyT, peek, peeks, cmD, biV, biW, rprV, biD, idxV, idxD, slcV, slcD, mtV, mtApp, mtPure, mtTyp, mtD, opD, take, takes, keepS, runF, noX, dctR, pairsA, kyOf, pD, nD, tDk, kP, intsOf]
    have e3 := ev_thaw (V := UN (n + 2)) (l := [some (.d (pD (0, 0))), some (.clo 53 [.d (mD t δ E), .d (mD u ε F)]), some (.d (nD 200)), none, none, none, none, none, none]) (S := (S ++ [.lst [pD (0, 0)]]) ++ [.dit (tDk 0 [(0, 0)])]) (ev_lstN (es := .nil) (ds := []) evEs_nil)
    have e := evEs_cons e1 (evEs_cons e2 (evEs_cons e3 (evEs_cons (ev_lit (d := .int 0)) evEs_nil)))
    simp only [evS, e, R.st_ok]
    refine (if_pos rfl).trans ?_
    simp only [setAll]
    unfold stN
    simp [nD]
  have er := ev_evT (V := UN (n + 2)) (i := 3) (j := 5) (l := [some (.d (pD (0, 0))), some (.clo 53 [.d (mD t δ E), .d (mD u ε F)]), some (.d (nD 200)), some (.ref (S.length + 0)), some (.ref (S.length + 1)), some (.ref (S.length + 2)), some (.d (nD d')), o7, o8]) (S := stN S (ordO δ ε) ((ordO δ ε).map (rowP δ ε (ordO δ ε))) G') rfl rfl (n0 S _ _ _) (n2 S _ _ _) (by omega)
  refine run_d rfl ((evSs_cons p0).trans ((evSs_cons (ev_while.trans h)).trans (evSs_ret (ev_ret er)))) ?_
  rw [List.take_set_of_le (by omega), List.take_set_of_le (by omega)]
  unfold stN
  simp
/-! ### kinds -/
def Knd (kd : List Nat) (f : Bool → Bool → Bool) : Prop := (kd = [98, 111, 116, 104] ∧ f = (· && ·)) ∨ (kd = [101, 105, 116, 104, 101, 114] ∧ f = (· || ·)) ∨ (kd = [111, 110, 101] ∧ f = (· != ·))
theorem c_isend (n : Nat) {kd : List Nat} {f : Bool → Bool → Bool} (h : Knd kd f) (a b : Bool) (S : Sto) : CN (n + 1) 25 [.d (.str kd), .d (.bl a), .d (.bl b)] S = .ok (.d (.bl (f a b))) S := by
  rw [cn_at (F := d_is_end.fn) rfl]
  rcases h with ⟨rfl, rfl⟩ | ⟨rfl, rfl⟩ | ⟨rfl, rfl⟩ <;> cases a <;> cases b <;> simp [d_is_end, evSs, evS, evE, evEs, evO, evC, evI, R.opt, RS.opt, setTV, setT, asBool, isTy, isTyD, cmV, dicOf, ditOf, keyT, peek, peeks, cmD, biV, biW, rprV, biD, idxV, idxD, slcV, slcD, mtV, mtApp, mtPure, mtTyp, mtD, opD, take, takes, keepS, runF, noX, eqD, dep]
theorem enmD_at : ∀ (xs : List D) (k i : Nat), (enmD xs k)[i]? = xs[i]?.map fun x => .tup [nD (k + i), x]
  | [], _, _ => rfl
  | x :: xs, k, 0 => rfl
  | x :: xs, k, i + 1 => by
    simp only [enmD, List.getElem?_cons_succ, enmD_at xs (k + 1) i]
    rw [show k + 1 + i = k + (i + 1) from by omega]
theorem enmD_len : ∀ (xs : List D) (k : Nat), (enmD xs k).length = xs.length
  | [], _ => rfl
  | x :: xs, k => by simp [enmD, enmD_len xs]
def endsP (δ ε : Stp) (E F : List Nat) (f : Bool → Bool → Bool) : List Nat := (List.range (ordO δ ε).length).filter (onO δ ε fun s t => f (decide (s ∈ E)) (decide (t ∈ F)))
theorem c_bigprod (n : Nat) {kd : List Nat} {f : Bool → Bool → Bool} (h : Knd kd f) (hδ : OkS δ m) (hε : OkS ε m) (hm : m ≤ 100) (hl : δ.length ≤ 5) (hl2 : ε.length ≤ 5) (S : Sto) :
    CN (n + 4) 28 [.d (mD t δ E), .d (mD u ε F), .d (.str kd), .d (nD 200)] S = .ok (.d (mD t (rowsO δ ε) (endsP δ ε E F f))) S := by
  rw [cn_at (F := d_big_product.fn) rfl]
  have hol := ord_len hδ hε
  have h25 : δ.length * ε.length ≤ 25 := Nat.mul_le_mul hl hl2
  have a1 : evS (UN (n + 3)) (.asg (.tp (.nm 5) (.nm 6)) (.call 26 "numbered" (.cons (.tup (.cons (.lit (.int 0)) (.cons (.lit (.int 0)) .nil))) (.cons (.lam 53 [0, 1]) (.cons (.var 3) .nil))))) [some (.d (mD t δ E)), some (.d (mD u ε F)), some (.d (.str kd)), some (.d (nD 200)), none, none, none, none, none, none] S =
      .nx [some (.d (mD t δ E)), some (.d (mD u ε F)), some (.d (.str kd)), some (.d (nD 200)), none, some (.d (.lst ((ordO δ ε).map pD))), some (.d (.lst ((rowsO δ ε).map rowD))), none, none, none] S := by
    have el : evE (UN (n + 3)) (.lam 53 [0, 1]) [some (.d (mD t δ E)), some (.d (mD u ε F)), some (.d (.str kd)), some (.d (nD 200)), none, none, none, none, none, none] S = .ok (.clo 53 [.d (mD t δ E), .d (mD u ε F)]) S := by simp [evE, capsOf, plainV, R.opt]
    have ec : evE (UN (n + 3)) (.call 26 "numbered" (.cons (.tup (.cons (.lit (.int 0)) (.cons (.lit (.int 0)) .nil))) (.cons (.lam 53 [0, 1]) (.cons (.var 3) .nil)))) [some (.d (mD t δ E)), some (.d (mD u ε F)), some (.d (.str kd)), some (.d (nD 200)), none, none, none, none, none, none] S = _ :=
      cn_callN (evEs_cons (ev_tup2 ev_lit ev_lit) (evEs_cons el (evEs_cons (ev_var rfl) evEs_nil))) (c_numbered n hδ hε hm hl hl2 S)
    conv => lhs; unfold evS
    simp only [ec, R.st_ok]
    rfl
  obtain ⟨l', S', h1, o7, o8, o9, rfl, rfl⟩ := forGo_inv (t := .tp (.nm 7) (.tp (.nm 8) (.nm 9))) (b := evSs (UN (n + 3)) f_big_product_1) (fun j l S' => ∃ o7 o8 o9, l = [some (.d (mD t δ E)), some (.d (mD u ε F)), some (.d (.str kd)), some (.d (nD 200)), some (.ref S.length), some (.d (.lst ((ordO δ ε).map pD))), some (.d (.lst ((rowsO δ ε).map rowD))), o7, o8, o9] ∧ S ++ [.lst (((List.range j).filter (onO δ ε fun s t => f (decide (s ∈ E)) (decide (t ∈ F)))).map nD)] = S')
    (xs := enmD ((ordO δ ε).map pD) 0) (k := 0) (l := [some (.d (mD t δ E)), some (.d (mD u ε F)), some (.d (.str kd)), some (.d (nD 200)), some (.ref S.length), some (.d (.lst ((ordO δ ε).map pD))), some (.d (.lst ((rowsO δ ε).map rowD))), none, none, none]) (S := S ++ [.lst []]) ⟨none, none, none, rfl, rfl⟩ (fun i x l S' hx hI => by
      obtain ⟨o7, o8, o9, rfl, rfl⟩ := hI
      rw [enmD_at, List.getElem?_map, Option.map_map, Option.map_eq_some_iff] at hx
      obtain ⟨p, hp, rfl⟩ := hx
      have hi := (List.getElem?_eq_some_iff.mp hp).1
      have hon : onO δ ε (fun s t => f (decide (s ∈ E)) (decide (t ∈ F))) (0 + i) = f (decide (p.1 ∈ E)) (decide (p.2 ∈ F)) := by
        unfold onO
        rw [Nat.zero_add, hp]
      have c : evE (UN (n + 3)) (.call 25 "is_end" (.cons (.var 2) (.cons (.cmp .isin (.var 8) (.idx (.var 0) (.lit (.int 2)))) (.cons (.cmp .isin (.var 9) (.idx (.var 1) (.lit (.int 2)))) .nil)))) [some (.d (mD t δ E)), some (.d (mD u ε F)), some (.d (.str kd)), some (.d (nD 200)), some (.ref S.length), some (.d (.lst ((ordO δ ε).map pD))), some (.d (.lst ((rowsO δ ε).map rowD))), some (.d (nD (0 + i))), some (.d (nD p.1)), some (.d (nD p.2))] (S ++ [.lst (((List.range (0 + i)).filter (onO δ ε fun s t => f (decide (s ∈ E)) (decide (t ∈ F)))).map nD)]) =
          .ok (.d (.bl (f (decide (p.1 ∈ E)) (decide (p.2 ∈ F))))) (S ++ [.lst (((List.range (0 + i)).filter (onO δ ε fun s t => f (decide (s ∈ E)) (decide (t ∈ F)))).map nD)]) :=
        cn_callN (evEs_cons (ev_var rfl) (evEs_cons (ev_cmp (ev_var rfl) (ev_ix2 (ev_var rfl)) (isin_row _ _)) (evEs_cons (ev_cmp (ev_var rfl) (ev_ix2 (ev_var rfl)) (isin_row _ _)) evEs_nil))) (c_isend (n + 2) h _ _ _)
      cases hf : f (decide (p.1 ∈ E)) (decide (p.2 ∈ F)) with
      | true =>
        rw [hf] at c hon
        have s1 := ev_append (V := UN (n + 3)) (i := 4) (e := .var 7) (l := [some (.d (mD t δ E)), some (.d (mD u ε F)), some (.d (.str kd)), some (.d (nD 200)), some (.ref S.length), some (.d (.lst ((ordO δ ε).map pD))), some (.d (.lst ((rowsO δ ε).map rowD))), some (.d (nD (0 + i))), some (.d (nD p.1)), some (.d (nD p.2))]) (S := S ++ [.lst (((List.range (0 + i)).filter (onO δ ε fun s t => f (decide (s ∈ E)) (decide (t ∈ F)))).map nD)]) rfl (get_at S [] _) (ev_var rfl) (by
          rw [List.length_map]
          have := List.length_filter_le (onO δ ε fun s t => f (decide (s ∈ E)) (decide (t ∈ F))) (List.range (0 + i))
          rw [List.length_range] at this
          show _ < 16777216
          omega)
        rw [set_at] at s1
        refine ⟨_, _, _, rfl, (evSs_cons ((ev_if_t c).trans ((evSs_cons s1).trans rfl))).trans rfl, _, _, _, rfl, ?_⟩
        rw [List.range_succ, List.filter_append, List.map_append]
        simp only [List.filter_cons, hon, if_true, List.filter_nil, List.map_cons, List.map_nil]
      | false =>
        rw [hf] at c hon
        refine ⟨_, _, _, rfl, (evSs_cons ((ev_if_f c).trans rfl)).trans rfl, _, _, _, rfl, ?_⟩
        rw [List.range_succ, List.filter_append, List.map_append]
        rw [Nat.zero_add] at hon
        simp [List.filter_cons, hon])
  rw [enmD_len, List.length_map, Nat.zero_add] at h1
  have a2 := ev_asgD (V := UN (n + 3)) (i := 4) (l := [some (.d (mD t δ E)), some (.d (mD u ε F)), some (.d (.str kd)), some (.d (nD 200)), none, some (.d (.lst ((ordO δ ε).map pD))), some (.d (.lst ((rowsO δ ε).map rowD))), none, none, none]) (ev_thaw (S := S) (ev_lstN (es := .nil) (ds := []) evEs_nil))
  have a3 : evI (UN (n + 3)) (.enm (.var 5)) [some (.d (mD t δ E)), some (.d (mD u ε F)), some (.d (.str kd)), some (.d (nD 200)), some (.ref S.length), some (.d (.lst ((ordO δ ε).map pD))), some (.d (.lst ((rowsO δ ε).map rowD))), none, none, none] (S ++ [.lst []]) = .ok (.items (enmD ((ordO δ ε).map pD) 0)) (S ++ [.lst []]) := by
    simp [evSs, evS, evE, evEs, evO, evC, evI, R.opt, RS.opt, setTV, setT, asBool, isTy, isTyD, cmV, dicOf, ditOf, keyT, peek, peeks, cmD, biV, biW, rprV, biD, idxV, idxD, slcV, slcD, mtV, mtApp, mtPure, mtTyp, mtD, opD, take, takes, keepS, runF, noX, seqD]
  refine run_d rfl ((evSs_cons a1).trans ((evSs_cons a2).trans ((evSs_cons ((ev_for a3).trans h1)).trans (evSs_ret (ev_ret (ev_tupN (ds := [nD t, stD (rowsO δ ε), rowD (endsP δ ε E F f)]) (evEs_cons (ev_ix0 (ev_var rfl)) (evEs_cons (ev_bi1 (ev_var (i := 6) rfl) rfl) (evEs_cons (ev_tupR (i := 4) rfl (by simp; rfl)) evEs_nil))))))))) ?_
  simp
theorem prod_mch {f : Bool → Bool → Bool} (h : Mch t δ E) (h2 : Mch t ε F) (hl : δ.length ≤ 5) (hl2 : ε.length ≤ 4) : Mch t (rowsO δ ε) (endsP δ ε E F f) := by
  have hol := ord_len h.ok h2.ok
  have h20 : δ.length * ε.length ≤ 20 := Nat.mul_le_mul hl hl2
  have el : (rowsO δ ε).length = (ordO δ ε).length := by unfold rowsO; rw [List.length_map]
  refine ⟨h.tr, rows_ok h.ok h2.ok, by omega, (List.pairwise_lt_range (n := (ordO δ ε).length)).sublist List.filter_sublist, fun x hx => ?_⟩
  rw [el]
  exact List.mem_range.mp (List.mem_filter.mp hx).1
theorem endsP_mem {f : Bool → Bool → Bool} {i : Nat} {p : Pr} (hi : (ordO δ ε)[i]? = some p) : decide (i ∈ endsP δ ε E F f) = f (decide (p.1 ∈ E)) (decide (p.2 ∈ F)) := by
  have hlt := (List.getElem?_eq_some_iff.mp hi).1
  have e : (i ∈ endsP δ ε E F f) ↔ f (decide (p.1 ∈ E)) (decide (p.2 ∈ F)) = true := by
    unfold endsP
    rw [List.mem_filter, List.mem_range]
    have : onO δ ε (fun s t => f (decide (s ∈ E)) (decide (t ∈ F))) i = f (decide (p.1 ∈ E)) (decide (p.2 ∈ F)) := by unfold onO; rw [hi]
    rw [this]
    exact ⟨fun z => z.2, fun z => ⟨hlt, z⟩⟩
  rw [Bool.eq_iff_iff, decide_eq_true_iff, e]
theorem c_product (n : Nat) {kd : List Nat} {f : Bool → Bool → Bool} (h : Knd kd f) (hδ : OkS δ m) (hε : OkS ε m) (hm : m ≤ 100) (hl : δ.length ≤ 5) (hl2 : ε.length ≤ 5) (S : Sto) :
    CN (n + 5) 29 [.d (mD t δ E), .d (mD u ε F), .d (.str kd)] S = .ok (.d (mD t (rowsO δ ε) (endsP δ ε E F f))) S := by
  rw [cn_at (F := d_product.fn) rfl]
  exact run_d rfl (evSs_ret (ev_ret (cn_callN (evEs_cons (ev_var rfl) (evEs_cons (ev_var rfl) (evEs_cons (ev_var rfl) (evEs_cons ev_globD evEs_nil)))) (c_bigprod n h hδ hε hm hl hl2 S)))) (take_self _)
theorem ne_nD (a b : Nat) : cmD .ne (nD a) (nD b) = some (!decide (a = b)) := by
  show (if min (dep (nD a)) (dep (nD b)) ≤ 60 then some (!eqD (nD a) (nD b)) else none) = _
  rw [if_pos (by simp [nD, dep]), eq_nD]
theorem c_chkpair (n : Nat) (h : Mch t δ E) (h2 : Mch u ε F) (S : Sto) : CN (n + 8) 30 [.d (mD t δ E), .d (mD u ε F)] S = if t = u then .ok (.d .non) S else .exc 4 [] S := by
  rw [cn_at (F := d_check_pair.fn) rfl]
  have a1 : evE (UN (n + 7)) (.call 12 "check_machine" (.cons (.var 0) .nil)) [some (.d (mD t δ E)), some (.d (mD u ε F))] S = .ok (.d .non) S := cn_call1 (ev_var rfl) (c_chkm n S h)
  have a2 : evE (UN (n + 7)) (.call 12 "check_machine" (.cons (.var 1) .nil)) [some (.d (mD t δ E)), some (.d (mD u ε F))] S = .ok (.d .non) S := cn_call1 (ev_var rfl) (c_chkm n S h2)
  have a3 := ev_cmp (V := UN (n + 7)) (o := .ne) (S := S) (ev_ix0 (ev_var (i := 0) (l := [some (.d (mD t δ E)), some (.d (mD u ε F))]) rfl)) (ev_ix0 (ev_var (i := 1) rfl)) (ne_nD t u)
  by_cases e : t = u
  · rw [decide_eq_true e] at a3
    rw [if_pos e]
    exact run_nx rfl ((evSs_cons (ev_ex a1)).trans ((evSs_cons (ev_ex a2)).trans ((evSs_cons ((ev_if_f a3).trans rfl)).trans rfl))) (take_self _)
  · rw [decide_eq_false e] at a3
    rw [if_neg e]
    exact run_exc rfl ((evSs_cons (ev_ex a1)).trans ((evSs_cons (ev_ex a2)).trans (evSs_exc ((ev_if_t a3).trans (evSs_exc ev_raise))))) (take_self _)
theorem c_joined (n f : Nat) {kd : List Nat} {g : Bool → Bool → Bool} (hk : Knd kd g) (x : String) (hF : T.fs[f]? = some ⟨2, 2, .cons (.ex (.call 30 "check_pair" (.cons (.var 0) (.cons (.var 1) .nil)))) (.cons (.ret (.call 29 "product" (.cons (.var 0) (.cons (.var 1) (.cons (.glob x (.d (.str kd))) .nil))))) .nil)⟩) (h : Mch t δ E) (h2 : Mch t ε F) (hl : δ.length ≤ 5) (hl2 : ε.length ≤ 5) (S : Sto) :
    CN (n + 9) f [.d (mD t δ E), .d (mD t ε F)] S = .ok (.d (mD t (rowsO δ ε) (endsP δ ε E F g))) S := by
  rw [cn_at hF]
  have hm := h.syms
  exact run_d rfl ((evSs_cons (ev_ex (cn_callN (evEs_cons (ev_var rfl) (evEs_cons (ev_var rfl) evEs_nil)) ((c_chkpair n h h2 S).trans (if_pos rfl))))).trans (evSs_ret (ev_ret (cn_callN (evEs_cons (ev_var rfl) (evEs_cons (ev_var rfl) (evEs_cons ev_globD evEs_nil))) (c_product (n + 3) hk h.ok h2.ok (by omega) hl hl2 S))))) (take_self _)
theorem c_both (n : Nat) (h : Mch t δ E) (h2 : Mch t ε F) (hl : δ.length ≤ 5) (hl2 : ε.length ≤ 5) (S : Sto) : CN (n + 9) 31 [.d (mD t δ E), .d (mD t ε F)] S = .ok (.d (mD t (rowsO δ ε) (endsP δ ε E F (· && ·)))) S := c_joined n 31 (.inl ⟨rfl, rfl⟩) "BOTH" rfl h h2 hl hl2 S
theorem c_either (n : Nat) (h : Mch t δ E) (h2 : Mch t ε F) (hl : δ.length ≤ 5) (hl2 : ε.length ≤ 5) (S : Sto) : CN (n + 9) 32 [.d (mD t δ E), .d (mD t ε F)] S = .ok (.d (mD t (rowsO δ ε) (endsP δ ε E F (· || ·)))) S := c_joined n 32 (.inr (.inl ⟨rfl, rfl⟩)) "EITHER" rfl h h2 hl hl2 S
theorem c_one (n : Nat) (h : Mch t δ E) (h2 : Mch t ε F) (hl : δ.length ≤ 5) (hl2 : ε.length ≤ 5) (S : Sto) : CN (n + 9) 33 [.d (mD t δ E), .d (mD t ε F)] S = .ok (.d (mD t (rowsO δ ε) (endsP δ ε E F (· != ·)))) S := c_joined n 33 (.inr (.inr ⟨rfl, rfl⟩)) "ONE" rfl h h2 hl hl2 S
end
end K04
end

section
set_option Elab.async false
set_option linter.all false
set_option maxRecDepth 100000
set_option maxHeartbeats 4000000
namespace K04
open PySem EV
/-! ### all rows up to a length -/
def rl (m : Nat) : Nat → List (List Nat)
  | 0 => [[]]
  | k + 1 => (rl m k).flatMap fun r => (List.range m).map fun a => r ++ [a]
def rf (m : Nat) : Nat → List (List Nat)
  | 0 => [[]]
  | k + 1 => rf m k ++ rl m (k + 1)
theorem rl_len (m : Nat) : ∀ k, (rl m k).length = m ^ k
  | 0 => rfl
  | k + 1 => by
    show ((rl m k).flatMap _).length = _
    rw [List.length_flatMap]
    simp only [List.length_map, List.length_range]
    have : ((rl m k).map fun _ => m).sum = (rl m k).length * m := by
      generalize rl m k = l
      induction l with
      | nil => simp
      | cons x l ih => simp [ih, Nat.add_mul, Nat.add_comm]
    rw [this, rl_len m k, Nat.pow_succ]
theorem rl_ok (m : Nat) : ∀ k, ∀ r ∈ rl m k, r.length = k ∧ ∀ a ∈ r, a < m
  | 0, r, h => by
    rw [show rl m 0 = [[]] from rfl] at h
    rw [List.mem_singleton.mp h]
    exact ⟨rfl, fun a ha => by cases ha⟩
  | k + 1, r, h => by
    obtain ⟨r0, h0, h1⟩ := List.mem_flatMap.mp h
    obtain ⟨a, ha, rfl⟩ := List.mem_map.mp h1
    obtain ⟨q1, q2⟩ := rl_ok m k r0 h0
    refine ⟨by simp [q1], fun b hb => ?_⟩
    rcases List.mem_append.mp hb with z | z
    · exact q2 b z
    · rw [List.mem_singleton.mp z]; exact List.mem_range.mp ha
theorem rf_ok (m : Nat) : ∀ k, ∀ r ∈ rf m k, r.length ≤ k ∧ ∀ a ∈ r, a < m
  | 0, r, h => by
    rw [show rf m 0 = [[]] from rfl] at h
    rw [List.mem_singleton.mp h]
    exact ⟨Nat.le_refl _, fun a ha => by cases ha⟩
  | k + 1, r, h => by
    rcases List.mem_append.mp h with z | z
    · obtain ⟨q1, q2⟩ := rf_ok m k r z
      exact ⟨by omega, q2⟩
    · obtain ⟨q1, q2⟩ := rl_ok m (k + 1) r z
      exact ⟨by omega, q2⟩
theorem rf_len (m : Nat) (b : Nat) : ∀ k, (∀ i, i ≤ k → m ^ i ≤ b) → (rf m k).length ≤ (k + 1) * b
  | 0, h => by have := h 0 (Nat.le_refl _); simp [rf]; simpa using this
  | k + 1, h => by
    have h1 := rf_len m b k fun i hi => h i (by omega)
    have h2 := h (k + 1) (Nat.le_refl _)
    show (rf m k ++ rl m (k + 1)).length ≤ _
    rw [List.length_append, rl_len, Nat.add_mul (k + 1) 1 b]
    omega
theorem forRef_inv {t : LT} {b : EV.Loc → Sto → RS} {n : Nat} {ds : List D} (I : Nat → EV.Loc → Sto → Prop) (hg : ∀ j l S, I j l S → (S : List Cell)[n]? = some (.lst ds)) (hs : ∀ j x l S, ds[j]? = some x → I j l S → ∃ l' l2 S2, setT t x l = some l' ∧ b l' S = .nx l2 S2 ∧ I (j + 1) l2 S2) :
    ∀ (fuel i : Nat) (l : EV.Loc) (S : Sto), I i l S → i ≤ ds.length → ds.length < i + fuel → ∃ l' S', forRef t b n fuel i l S = .nx l' S' ∧ I ds.length l' S'
  | 0, i, l, S, _, _, hf => absurd hf (by omega)
  | fuel + 1, i, l, S, hI, hi, hf => by
    cases e : ds[i]? with
    | none =>
      have : ds.length ≤ i := List.getElem?_eq_none_iff.mp e
      refine ⟨l, S, by simp only [forRef, hg i l S hI, e], by rw [show ds.length = i from by omega]; exact hI⟩
    | some x =>
      obtain ⟨l', l2, S2, h1, h2, h3⟩ := hs i x l S e hI
      have hlt := (List.getElem?_eq_some_iff.mp e).1
      obtain ⟨l3, S3, q1, q2⟩ := forRef_inv I hg hs fuel (i + 1) l2 S2 h3 (by omega) (by omega)
      exact ⟨l3, S3, by simp only [forRef, hg i l S hI, e, h1, h2, q1], q2⟩
theorem ev_extend {V : EV.Env} {i a : Nat} {e : LE} {l : EV.Loc} {S : Sto} {ds zs : List D} (hi : l[i]? = some (some (.ref a))) (hS : (S : List Cell)[a]? = some (.lst ds)) (he : evE V e l S = .ok (.d (.lst zs)) S) (hl : ds.length + zs.length ≤ lim) :
    evS V (.ex (.mt .extend (.var i) (.cons e .nil))) l S = .nx l (S.set a (.lst (ds ++ zs))) := by
  have ty : isTy (mtTyp .extend) (.ref a) S = some true := by simp [isTy, mtTyp, hS]
  simp only [evS, evE, evEs, hi, R.bind_ok, ty, if_true, he, mtV, mtExt, hS, peek, if_pos hl, R.st_ok]
section
variable {n m : Nat}
/-- what stands for the last rows -/
def lastAt (S : Sto) (v : Vl) (L : List (List Nat)) : Prop := v = .d (.lst (L.map rowD)) ∨ ∃ r, v = .ref r ∧ (S : List Cell)[r]? = some (.lst (L.map rowD))
theorem rows_step {B : Sto} {o1 o2 o3 o4 : Option Vl} {X : List (List Nat)} {o7 : Option Vl} {r : List Nat} (hm : m ≤ 100) (hx : X.length ≤ 100000) (hr : r.length ≤ 1000) :
    evSs (UN n) f_law_rows_2 [some (.d (nD m)), o1, o2, o3, o4, some (.ref B.length), some (.d (rowD r)), o7] (B ++ [.lst (X.map rowD)]) =
      .nx [some (.d (nD m)), o1, o2, o3, o4, some (.ref B.length), some (.d (rowD r)), o7] (B ++ [.lst ((X ++ (List.range m).map fun a => r ++ [a]).map rowD)]) := by
  have hc : evE (UN n) x_law_rows_1 [some (.d (nD m)), o1, o2, o3, o4, some (.ref B.length), some (.d (rowD r)), o7] (B ++ [.lst (X.map rowD)]) = .ok (.d (.lst (((List.range m).map fun a => r ++ [a]).map rowD))) (B ++ [.lst (X.map rowD)]) := by
    refine (ev_comp_map (ds := rangeD 0 (m : Nat)) (fun y => match y with | .int s => rowD (r ++ [s.toNat]) | _ => .non) (ev_rng1 (ev_var rfl) (wide_nat (by omega))) (fun x hx => ?_) (by rw [rng_len]; show m ≤ 16777216; omega)).trans ?_
    · obtain ⟨i, hi⟩ := List.mem_iff_getElem?.mp hx
      obtain ⟨_, rfl⟩ := rng_at hi
      exact ⟨_, rfl, ev_op (ev_var (i := 6) rfl) (ev_tup1 (ev_var (i := 7) rfl)) (add_row r i (by omega))⟩
    · rw [rngD_nD, List.map_map, List.map_map]
      rfl
  have s1 := ev_extend (V := UN n) (i := 5) (l := [some (.d (nD m)), o1, o2, o3, o4, some (.ref B.length), some (.d (rowD r)), o7]) rfl (get_at B [] (.lst (X.map rowD))) hc (by simp only [List.length_map, List.length_range]; show _ ≤ 16777216; omega)
  rw [set_at, ← List.map_append] at s1
  exact (evSs_cons s1).trans rfl
theorem rows_loop {B : Sto} {o1 o2 o3 o6 o7 : Option Vl} {v : Vl} {L : List (List Nat)} (hv : lastAt B v L) (hL : L.length < 99) (hm : m ≤ 100) (hr : ∀ r ∈ L, r.length ≤ 1000) :
    ∃ o6' o7', evS (UN n) (.for_ (.nm 6) (.val (.var 4)) f_law_rows_2) [some (.d (nD m)), o1, o2, o3, some v, some (.ref B.length), o6, o7] (B ++ [.lst []]) =
      .nx [some (.d (nD m)), o1, o2, o3, some v, some (.ref B.length), o6', o7'] (B ++ [.lst ((L.flatMap fun r => (List.range m).map fun a => r ++ [a]).map rowD)]) := by
  have step : ∀ (j : Nat) (x : D) (l : EV.Loc) (S' : Sto), (L.map rowD)[j]? = some x → (∃ o6 o7, l = [some (.d (nD m)), o1, o2, o3, some v, some (.ref B.length), o6, o7] ∧ B ++ [.lst (((L.take j).flatMap fun r => (List.range m).map fun a => r ++ [a]).map rowD)] = S') →
      ∃ l' l2 S2, setT (.nm 6) x l = some l' ∧ evSs (UN n) f_law_rows_2 l' S' = .nx l2 S2 ∧ (∃ o6 o7, l2 = [some (.d (nD m)), o1, o2, o3, some v, some (.ref B.length), o6, o7] ∧ B ++ [.lst (((L.take (j + 1)).flatMap fun r => (List.range m).map fun a => r ++ [a]).map rowD)] = S2) := by
    rintro j x l S' hx ⟨o6, o7, rfl, rfl⟩
    rw [List.getElem?_map, Option.map_eq_some_iff] at hx
    obtain ⟨r, hj, rfl⟩ := hx
    have hlen : ((L.take j).flatMap fun r => (List.range m).map fun a => r ++ [a]).length ≤ 100000 := by
      rw [List.length_flatMap]
      simp only [List.length_map, List.length_range]
      have : ((L.take j).map fun _ => m).sum = (L.take j).length * m := by
        generalize L.take j = l
        induction l with
        | nil => simp
        | cons x l ih => simp [ih, Nat.add_mul, Nat.add_comm]
      rw [this, List.length_take]
      have : min j L.length * m ≤ 99 * 100 := Nat.mul_le_mul (by omega) hm
      omega
    have st := rows_step (n := n) (m := m) (B := B) (o1 := o1) (o2 := o2) (o3 := o3) (o4 := some v) (X := (L.take j).flatMap fun r => (List.range m).map fun a => r ++ [a]) (o7 := o7) (r := r) hm hlen (hr r (List.mem_of_getElem? hj))
    refine ⟨_, _, _, rfl, st, _, _, rfl, ?_⟩
    rw [List.take_succ, hj, List.flatMap_append]
    simp
  rcases hv with rfl | ⟨r, rfl, hS⟩
  · obtain ⟨l', S', h1, o6', o7', rfl, rfl⟩ := forGo_inv (t := .nm 6) (b := evSs (UN n) f_law_rows_2) (fun j l S' => ∃ o6 o7, l = [some (.d (nD m)), o1, o2, o3, some (.d (.lst (L.map rowD))), some (.ref B.length), o6, o7] ∧ B ++ [.lst (((L.take j).flatMap fun r => (List.range m).map fun a => r ++ [a]).map rowD)] = S')
      (xs := L.map rowD) (k := 0) (l := [some (.d (nD m)), o1, o2, o3, some (.d (.lst (L.map rowD))), some (.ref B.length), o6, o7]) (S := B ++ [.lst []]) ⟨o6, o7, rfl, rfl⟩ (fun i x l S' hx hI => by
        rw [Nat.zero_add] at hI ⊢
        exact step i x l S' hx hI)
    rw [List.length_map, Nat.zero_add, List.take_length] at h1
    exact ⟨o6', o7', (ev_for (ev_valL (ev_var rfl))).trans h1⟩
  · have hlt := (List.getElem?_eq_some_iff.mp hS).1
    obtain ⟨l', S', h1, o6', o7', rfl, rfl⟩ := forRef_inv (t := .nm 6) (b := evSs (UN n) f_law_rows_2) (n := r) (ds := L.map rowD) (fun j l S' => ∃ o6 o7, l = [some (.d (nD m)), o1, o2, o3, some (.ref r), some (.ref B.length), o6, o7] ∧ B ++ [.lst (((L.take j).flatMap fun r => (List.range m).map fun a => r ++ [a]).map rowD)] = S')
      (fun j l S' hI => by
        obtain ⟨_, _, _, rfl⟩ := hI
        rw [List.getElem?_append_left hlt]
        exact hS) step 100 0 [some (.d (nD m)), o1, o2, o3, some (.ref r), some (.ref B.length), o6, o7] (B ++ [.lst []]) ⟨o6, o7, rfl, rfl⟩ (Nat.zero_le _) (by rw [List.length_map]; omega)
    rw [List.length_map, List.take_length] at h1
    refine ⟨o6', o7', ?_⟩
    have hg : evI (UN n) (.val (.var 4)) [some (.d (nD m)), o1, o2, o3, some (.ref r), some (.ref B.length), o6, o7] (B ++ [.lst []]) = .ok (.live r) (B ++ [.lst []]) := by
      have g : ((B ++ [.lst []] : Sto) : List Cell)[r]? = some (.lst (L.map rowD)) := by rw [List.getElem?_append_left hlt]; exact hS
      simp only [evI]
      rw [ev_var (v := .ref r) rfl]
      simp [R.bind, liveL, g]
    conv => lhs; unfold evS
    simp only [hg, R.st_ok, forR]
    exact h1
theorem c_rows (n : Nat) {m k : Nat} (hm : m ≤ 4) (hk : k ≤ 6) (hb : ∀ i, i < k → m ^ i ≤ 64) (S : Sto) : CN (n + 1) 45 [.d (nD m), .d (nD k)] S = .ok (.d (.lst ((rf m k).map rowD))) S := by
  rw [cn_at (F := d_law_rows.fn) rfl]
  obtain ⟨l', S', h1, v, o2, o5, o6, o7, rfl, hv, G, rfl⟩ := forGo_inv (t := .nm 2) (b := evSs (UN n) f_law_rows_3) (fun j l S' => ∃ v o2 o5 o6 o7, l = [some (.d (nD m)), some (.d (nD k)), o2, some (.d (.lst ((rf m j).map rowD))), some v, o5, o6, o7] ∧ lastAt S' v (rl m j) ∧ ∃ G, S' = S ++ G)
    (xs := rangeD 0 (k : Nat)) (k := 0) (l := [some (.d (nD m)), some (.d (nD k)), none, some (.d (.lst [rowD []])), some (.d (.lst [rowD []])), none, none, none]) (S := S) ⟨.d (.lst [rowD []]), none, none, none, none, rfl, .inl rfl, [], by simp⟩ (fun i x l S' hx hI => by
      obtain ⟨v, o2, o5, o6, o7, rfl, hv, G, rfl⟩ := hI
      obtain ⟨hi, rfl⟩ := rng_at hx
      rw [Nat.zero_add] at hv ⊢
      have h64 := hb i hi
      have hrl := rl_len m i
      generalize hB : (S ++ G : Sto) = B at *
      have a1 := ev_asgD (V := UN n) (i := 5) (l := [some (.d (nD m)), some (.d (nD k)), some (.d (nD i)), some (.d (.lst ((rf m i).map rowD))), some v, o5, o6, o7]) (ev_thaw (S := B) (ev_lstN (es := .nil) (ds := []) evEs_nil))
      obtain ⟨o6', o7', a2⟩ := rows_loop (n := n) (m := m) (B := B) (o1 := some (.d (nD k))) (o2 := some (.d (nD i))) (o3 := some (.d (.lst ((rf m i).map rowD)))) (o6 := o6) (o7 := o7) hv (by omega) (by omega) (fun r hr => by have := (rl_ok m i r hr).1; omega)
      have el : ((rl m i).flatMap fun r => (List.range m).map fun a => r ++ [a]) = rl m (i + 1) := rfl
      rw [el] at a2
      have hlim : (rf m i).length + (rl m (i + 1)).length ≤ 1000 := by
        have q1 := rf_len m 64 i fun j hj => hb j (by omega)
        have q2 : (i + 1) * 64 ≤ 6 * 64 := Nat.mul_le_mul_right _ (by omega)
        have q3 : (rl m (i + 1)).length ≤ 64 * 4 := by
          rw [rl_len, Nat.pow_succ]
          exact Nat.mul_le_mul h64 hm
        omega
      have a3 : evS (UN n) (.par 3 4 (.op .add (.var 3) (.var 5)) (.var 5)) [some (.d (nD m)), some (.d (nD k)), some (.d (nD i)), some (.d (.lst ((rf m i).map rowD))), some v, some (.ref B.length), o6', o7'] (B ++ [.lst ((rl m (i + 1)).map rowD)]) =
          .nx [some (.d (nD m)), some (.d (nD k)), some (.d (nD i)), some (.d (.lst ((rf m (i + 1)).map rowD))), some (.ref B.length), some (.ref B.length), o6', o7'] (B ++ [.lst ((rl m (i + 1)).map rowD)]) := by
        have g := get_at B [] (.lst ((rl m (i + 1)).map rowD))
        have eo : evE (UN n) (.op .add (.var 3) (.var 5)) [some (.d (nD m)), some (.d (nD k)), some (.d (nD i)), some (.d (.lst ((rf m i).map rowD))), some v, some (.ref B.length), o6', o7'] (B ++ [.lst ((rl m (i + 1)).map rowD)]) = .ok (.d (.lst ((rf m (i + 1)).map rowD))) (B ++ [.lst ((rl m (i + 1)).map rowD)]) := by
          have e : opD .add (.lst ((rf m i).map rowD)) (.lst ((rl m (i + 1)).map rowD)) = some (.lst ((rf m (i + 1)).map rowD)) := by
            show (if _ ≤ lim then some (D.lst ((rf m i).map rowD ++ (rl m (i + 1)).map rowD)) else none) = _
            rw [if_pos (by simp only [List.length_map]; show _ ≤ 16777216; omega), ← List.map_append]
            rfl
          simp only [evE]
          simp [R.bind, peek, g, e, R.opt]
        simp only [evS, eo, R.st_ok]
        simp [evE, R.st]
      refine ⟨_, _, _, rfl, (evSs_cons a1).trans ((evSs_cons a2).trans ((evSs_cons a3).trans rfl)), _, _, _, _, _, rfl, .inr ⟨B.length, rfl, get_at B [] _⟩, G ++ [.lst ((rl m (i + 1)).map rowD)], by rw [← hB]; simp⟩)
  rw [rng_len, Nat.zero_add] at h1
  have a0 : evS (UN n) (.par 3 4 (.lst (.cons (.tup .nil) .nil)) (.lst (.cons (.tup .nil) .nil))) [some (.d (nD m)), some (.d (nD k)), none, none, none, none, none, none] S = .nx [some (.d (nD m)), some (.d (nD k)), none, some (.d (.lst [rowD []])), some (.d (.lst [rowD []])), none, none, none] S := by
    have e := ev_lst1 (V := UN n) (l := [some (.d (nD m)), some (.d (nD k)), none, none, none, none, none, none]) (S := S) (ev_tupN (es := .nil) (ds := []) evEs_nil)
    simp only [evS, e, R.st_ok]
    rfl
  refine run_d rfl ((evSs_cons a0).trans ((evSs_cons ((ev_for (ev_rng1 (ev_var rfl) (wide_nat (by omega)))).trans h1)).trans (evSs_ret (ev_ret (ev_var rfl))))) ?_
  simp
end
end K04
end

section
set_option Elab.async false
set_option linter.all false
set_option maxRecDepth 100000
set_option maxHeartbeats 4000000
namespace K04
open PySem EV
/-! ### the hand -/
theorem c_draw (n : Nat) {r : Nat} {St : Sto} {hd : List D} {many : Nat} (hr : (St : List Cell)[r]? = some (.lst hd)) (hH : Hd hd) (hm : 1 ≤ many) (hm2 : many < 1000000) :
    ∃ k hd', k < many ∧ Hd hd' ∧ CN (n + 1) 39 [.ref r, .d (nD many)] St = .ok (.d (nD k)) (St.set r (.lst hd')) := by
  obtain ⟨d, hd', h1, h2, h3, h4⟩ := draw_ok (V := UN n) (q := 29) (many := (many : Int)) hr hH (by omega) (by omega)
  obtain ⟨k, rfl⟩ : ∃ k : Nat, d = (k : Int) := ⟨d.toNat, by omega⟩
  refine ⟨k, hd', by omega, h3, ?_⟩
  rw [cn_at (F := d_law_draw.fn) rfl]
  have h4 : evSs (UN n) d_law_draw.fn.body (([.ref r, .d (nD many)] : List Vl).map some ++ List.replicate (d_law_draw.fn.nl - d_law_draw.fn.np) none) St = .ret (.d (nD k)) (St.set r (.lst hd')) := h4
  rw [run_ret rfl h4, List.take_of_length_le (by simp)]
theorem c_some (n : Nat) {r : Nat} {St : Sto} {hd : List D} {xs : List D} (hr : (St : List Cell)[r]? = some (.lst hd)) (hH : Hd hd) (hx : xs ≠ []) (hx2 : xs.length ≤ 1000) :
    ∃ (k : Nat) (x : D) (hd' : List D), xs[k]? = some x ∧ Hd hd' ∧ CN (n + 2) 40 [.ref r, .d (.lst xs)] St = .ok (.d x) (St.set r (.lst hd')) := by
  have pos : 0 < xs.length := List.length_pos_iff.mpr hx
  obtain ⟨k, hd', h1, h2, h3⟩ := c_draw n (many := xs.length) hr hH (by omega) (by omega)
  have hk := List.getElem?_eq_getElem h1
  refine ⟨k, xs[k], hd', hk, h2, ?_⟩
  rw [cn_at (F := d_law_some.fn) rfl]
  have e1 : evE (UN (n + 1)) (.call 39 "_law_draw" (.cons (.var 0) (.cons (.bi .len (.cons (.var 1) .nil)) .nil))) [some (.ref r), some (.d (.lst xs))] St = .ok (.d (nD k)) (St.set r (.lst hd')) :=
    cn_callN (evEs_cons (ev_var rfl) (evEs_cons (ev_bi1 (z := nD xs.length) (ev_var (i := 1) rfl) rfl) evEs_nil)) h3
  have e : evE (UN (n + 1)) (.idx (.var 1) (.call 39 "_law_draw" (.cons (.var 0) (.cons (.bi .len (.cons (.var 1) .nil)) .nil)))) [some (.ref r), some (.d (.lst xs))] St = .ok (.d xs[k]) (St.set r (.lst hd')) := by
    conv => lhs; unfold evE
    rw [ev_var (v := .d (.lst xs)) rfl]
    simp only [R.bind_ok, e1, idxV, dicOf, ditOf, peek, idxD, nD, ixI_nat h1, Option.bind_some, hk, R.opt_some]
  have body : evSs (UN (n + 1)) d_law_some.fn.body (([.ref r, .d (.lst xs)] : List Vl).map some ++ List.replicate (d_law_some.fn.nl - d_law_some.fn.np) none) St = .ret (.d xs[k]) (St.set r (.lst hd')) := evSs_ret (ev_ret e)
  rw [run_ret rfl body, List.take_of_length_le (by simp)]
theorem cut_all (xs : List D) (h : xs.length ≤ 63) : cut xs none (some 63) = xs := by
  show (xs.drop 0).take (min 63 xs.length - 0) = xs
  rw [List.drop_zero, Nat.sub_zero, List.take_of_length_le (by omega)]
theorem pow36 : opD .pow (.int 10) (.int 36) = some (.int 1000000000000000000000000000000000000) := by
  show (if (0 : Int) ≤ 36 ∧ (36 : Int) ≤ 1000000 ∧ (10 : Int).natAbs < 2 ^ 64 then some (D.int ((10 : Int) ^ (36 : Int).toNat)) else none) = _
  rw [if_pos (by decide)]
  exact congrArg (fun z => some (D.int z)) (by decide)
theorem c_hand (n : Nat) (ns : List Int) (h : ns.length ≤ 63) : ∃ hd, Hd hd ∧ CN (n + 1) 38 [.scr (ns.map .int)] [] = .ok (.ref 0) [.lst hd] := by
  obtain ⟨cs, hcs⟩ : ∃ cs : List Int, cs = ns.map fun i => (if i < 0 then -i else i) % 1000000000000000000000000000000000000 := ⟨_, rfl⟩
  have hlen : cs.length ≤ 63 := by rw [hcs, List.length_map]; exact h
  have c1 : evE (UN n) x_law_hand_1 [some (.scr (ns.map .int)), none, none] [] = .ok (.d (.lst (cs.map .int))) [] := by
    refine (ev_comp_map (ds := ns.map .int) (fun x => match x with | .int i => .int ((if i < 0 then -i else i) % 1000000000000000000000000000000000000) | x => x) ?_ (fun x hx => ?_) (by rw [List.length_map, lim_val]; omega)).trans ?_
    · have e : cut (ns.map D.int) none (some 63) = ns.map .int := cut_all _ (by rw [List.length_map]; omega)
      simp only [evI, evE, evO, evE, List.getElem?_cons_zero, R.bind_ok, slcV, R.opt_some, seqD]
      simp [e, seqD]
    · obtain ⟨i, hi, rfl⟩ := List.mem_map.mp hx
      refine ⟨_, rfl, ?_⟩
      exact ev_op (ev_bi1 (b := .int) (z := .int (if i < 0 then -i else i)) (ev_bi1 (b := .abs) (ev_bi1 (b := .int) (ev_var rfl) rfl) rfl) rfl) (ev_op ev_lit ev_lit pow36) (opD_mod (by decide))
    · rw [hcs, List.map_map, List.map_map]
      rfl
  refine ⟨[.lst (cs.map .int), .int 0, .int 0, .int (431 + 7 * (cs.length : Int)), .int 0], ⟨⟨cs, 0, 0, _, 0, rfl, by omega, by omega⟩⟩, ?_⟩
  rw [cn_at (F := d_law_hand.fn) rfl]
  have hb : biD .len [.lst (cs.map .int)] = some (.int cs.length) := by
    show some (D.int ((cs.map D.int).length : Nat)) = _
    rw [List.length_map]
  have e1 : evE (UN n) (.op .add (.lit (.int 431)) (.op .mul (.lit (.int 7)) (.bi .len (.cons (.var 1) .nil)))) [some (.scr (ns.map .int)), some (.d (.lst (cs.map .int))), none] [] = .ok (.d (.int (431 + 7 * (cs.length : Int)))) [] :=
    ev_op ev_lit (ev_op ev_lit (ev_bi1 (ev_var rfl) hb) (opD_mul' (by decide))) (opD_addI _ _)
  have e2 := ev_thaw (V := UN n) (S1 := []) (ev_lstN (ds := [.lst (cs.map .int), .int 0, .int 0, .int (431 + 7 * (cs.length : Int)), .int 0]) (evEs_cons (ev_var (i := 1) rfl) (evEs_cons ev_lit (evEs_cons ev_lit (evEs_cons e1 (evEs_cons ev_lit evEs_nil))))))
  exact run_ref rfl ((evSs_cons (ev_asgD c1)).trans (evSs_ret (ev_retk e2))) (Nat.zero_le _)
/-! ### a drawn machine -/
theorem compGo_sub {t : LT} {c : EV.Loc → Sto → EV.R Bool} {e : EV.Loc → Sto → EV.R Vl} {l : EV.Loc} (I : Sto → Prop) : ∀ {xs acc : List D} {S : Sto}, I S → (∀ x ∈ xs, ∀ S, I S → ∃ l' b S', setT t x l = some l' ∧ c l' S = .ok b S' ∧ I S' ∧ e l' S' = .ok (.d x) S') → acc.length + xs.length ≤ lim →
    ∃ ys S', compGo t c e l xs acc S = .ok (acc ++ ys) S' ∧ ys.Sublist xs ∧ I S'
  | [], acc, S, h0, _, _ => ⟨[], S, by simp [compGo], List.Sublist.refl _, h0⟩
  | x :: xs, acc, S, h0, h, hl => by
    obtain ⟨l', b, S1, h1, h2, h3, h4⟩ := h x List.mem_cons_self S h0
    have hl' : acc.length < lim := by simp at hl; omega
    cases b with
    | true =>
      obtain ⟨ys, S2, q1, q2, q3⟩ := compGo_sub I (acc := acc ++ [x]) h3 (fun z hz => h z (List.mem_cons_of_mem _ hz)) (by simp at hl ⊢; omega)
      refine ⟨x :: ys, S2, ?_, q2.cons_cons x, q3⟩
      simp only [compGo, h1, h2, h4, take, if_pos hl', q1]
      simp
    | false =>
      obtain ⟨ys, S2, q1, q2, q3⟩ := compGo_sub I (acc := acc) h3 (fun z hz => h z (List.mem_cons_of_mem _ hz)) (by simp at hl ⊢; omega)
      exact ⟨ys, S2, by simp only [compGo, h1, h2, q1], q2.cons x, q3⟩
theorem ev_comp_sub {V : EV.Env} {elt cn : LE} {g : LI} {t : LT} {own : List Nat} {l : EV.Loc} {S S0 : Sto} {ds : List D} (I : Sto → Prop) (h1 : evI V g l S0 = .ok (.items ds) S) (h0 : I S) (h2 : ∀ x ∈ ds, ∀ S, I S → ∃ l' b S', setT t x (wipeL l own) = some l' ∧ evE V cn l' S = .ok (.d (.bl b)) S' ∧ I S' ∧ evE V elt l' S' = .ok (.d x) S') (h3 : ds.length ≤ lim) :
    ∃ ys S', evE V (.comp elt g t (.yes cn) own) l S0 = .ok (.d (.lst ys)) S' ∧ ys.Sublist ds ∧ I S' := by
  obtain ⟨ys, S', q1, q2, q3⟩ := compGo_sub (t := t) (c := evC V (.yes cn)) (e := evE V elt) (l := wipeL l own) I (xs := ds) (acc := []) h0 (fun x hx S hS => by
    obtain ⟨l', b, S', r1, r2, r3, r4⟩ := h2 x hx S hS
    exact ⟨l', b, S', r1, by simp [evC, r2, asBool], r3, r4⟩) (by simpa using h3)
  refine ⟨ys, S', ?_, q2, q3⟩
  simp only [evE, h1, R.bind_ok, compR, q1]
  simp
theorem to_row {m : Nat} : ∀ ys : List D, (∀ y ∈ ys, ∃ k, k < m ∧ y = nD k) → ∃ r : List Nat, ys = r.map nD ∧ ∀ x ∈ r, x < m
  | [], _ => ⟨[], rfl, fun x hx => by cases hx⟩
  | y :: ys, h => by
    obtain ⟨k, hk, rfl⟩ := h y List.mem_cons_self
    obtain ⟨r, rfl, hr⟩ := to_row ys fun z hz => h z (List.mem_cons_of_mem _ hz)
    exact ⟨k :: r, rfl, fun x hx => by
      rcases List.mem_cons.mp hx with e | e
      · rw [e]; exact hk
      · exact hr x e⟩
theorem eq0 (k : Nat) : cmD .eq (nD k) (.int 0) = some (decide (k = 0)) := by
  show (if min (dep (nD k)) (dep (.int 0)) ≤ 60 then some (eqD (nD k) (nD 0)) else none) = _
  rw [if_pos (by simp [nD, dep]), eq_nD]
theorem c_lmach (n : Nat) {hd : List D} {t most : Nat} (hH : Hd hd) (ht : t ≤ 1) (hm : 1 ≤ most) (hm2 : most ≤ 5) :
    ∃ δ E hd', Hd hd' ∧ Mch t δ E ∧ δ.length ≤ most ∧ CN (n + 2) 42 [.ref 0, .d (nD t), .d (nD most)] [.lst hd] = .ok (.d (mD t δ E)) [.lst hd'] := by
  obtain ⟨k0, hd1, hk0, hH1, d1⟩ := c_draw n (r := 0) (St := [.lst hd]) (hd := hd) (many := most) rfl hH hm (by omega)
  have h4 : 2 * 2 ^ t ≤ 4 := by rcases (by omega : t = 0 ∨ t = 1) with e | e <;> subst e <;> decide
  have d1 : CN (n + 1) 39 [.ref 0, .d (nD most)] [.lst hd] = .ok (.d (nD k0)) [.lst hd1] := d1
  have a0 : evS (UN (n + 1)) (.parN [5, 6] (.cons (.op .add (.lit (.int 1)) (.call 39 "_law_draw" (.cons (.var 0) (.cons (.var 2) .nil)))) (.cons (.thaw (.lst .nil)) .nil))) [some (.ref 0), some (.d (nD t)), some (.d (nD most)), none, none, none, none, none] [.lst hd] =
      .nx [some (.ref 0), some (.d (nD t)), some (.d (nD most)), none, none, some (.d (nD (1 + k0))), some (.ref 1), none] [.lst hd1, .lst []] := by
    have e1 := ev_op (V := UN (n + 1)) (o := .add) (ev_lit (d := nD 1)) (cn_callN (f := 39) (x := "_law_draw") (evEs_cons (ev_var (i := 0) (l := [some (.ref 0), some (.d (nD t)), some (.d (nD most)), none, none, none, none, none]) rfl) (evEs_cons (ev_var (i := 2) rfl) evEs_nil)) d1) (add_nD 1 k0)
    have e2 := ev_thaw (V := UN (n + 1)) (l := [some (.ref 0), some (.d (nD t)), some (.d (nD most)), none, none, none, none, none]) (S := [.lst hd1]) (ev_lstN (es := .nil) (ds := []) evEs_nil)
    have e := evEs_cons e1 (evEs_cons e2 evEs_nil)
    have e : evEs (UN (n + 1)) (.cons (.op .add (.lit (.int 1)) (.call 39 "_law_draw" (.cons (.var 0) (.cons (.var 2) .nil)))) (.cons (.thaw (.lst .nil)) .nil)) [some (.ref 0), some (.d (nD t)), some (.d (nD most)), none, none, none, none, none] [.lst hd] = .ok [.d (nD (1 + k0)), .ref 1] [.lst hd1, .lst []] := e
    simp only [evS, e, R.st_ok]
    rfl
  obtain ⟨l', S', h1, o3, o7, hd2, δ, rfl, rfl, hH2, hlen, hrows⟩ := forGo_inv (t := .nm 3) (b := evSs (UN (n + 1)) f_law_machine_3) (fun j l S' => ∃ o3 o7 hd2 δ, l = [some (.ref 0), some (.d (nD t)), some (.d (nD most)), o3, none, some (.d (nD (1 + k0))), some (.ref 1), o7] ∧ S' = [.lst hd2, .lst (δ.map rowD)] ∧ Hd hd2 ∧ δ.length = j ∧ ∀ r ∈ (δ : Stp), r.length = 2 * 2 ^ t ∧ ∀ x ∈ r, x < 1 + k0)
    (xs := rangeD 0 ((1 + k0 : Nat) : Int)) (k := 0) (l := [some (.ref 0), some (.d (nD t)), some (.d (nD most)), none, none, some (.d (nD (1 + k0))), some (.ref 1), none]) (S := [.lst hd1, .lst []]) ⟨none, none, hd1, [], rfl, rfl, hH1, rfl, fun r hr => by cases hr⟩ (fun i x l S' hx hI => by
      obtain ⟨o3, o7, hd2, δ, rfl, rfl, hH2, hlen, hrows⟩ := hI
      have hi := (List.getElem?_eq_some_iff.mp hx).1
      rw [rng_len] at hi
      obtain ⟨ys, S1, c1, c2, c3, hd3, hH3, rfl⟩ := ev_comp_inv (V := UN (n + 1)) (elt := x_law_machine_2e) (t := .nm 7) (own := [7]) (l := [some (.ref 0), some (.d (nD t)), some (.d (nD most)), some (.d x), none, some (.d (nD (1 + k0))), some (.ref 1), o7]) (S := [.lst hd2, .lst (δ.map rowD)]) (fun S' => ∃ hd3, Hd hd3 ∧ S' = [.lst hd3, .lst (δ.map rowD)]) (fun y => ∃ k, k < 1 + k0 ∧ y = nD k)
        (ev_rng1 (j := ((2 * 2 ^ t : Nat) : Int)) (ev_op (ev_lit (d := nD 2)) (cn_call1 (ev_var (i := 1) rfl) (c_two n t _ (by omega))) ((opD_mul' (by decide)).trans (by simp))) (wide_nat (by omega))) ⟨hd2, hH2, rfl⟩ (fun y hy S' hS => by
          obtain ⟨hd3, hH3, rfl⟩ := hS
          obtain ⟨k, hd4, q1, q2, q3⟩ := c_draw n (r := 0) (St := [.lst hd3, .lst (δ.map rowD)]) (hd := hd3) (many := 1 + k0) rfl hH3 (by omega) (by omega)
          exact ⟨_, _, _, rfl, cn_callN (evEs_cons (ev_var rfl) (evEs_cons (ev_var rfl) evEs_nil)) q3, ⟨hd4, q2, rfl⟩, k, q1, rfl⟩) (by rw [rng_len]; show 2 * 2 ^ t ≤ 16777216; omega)
      obtain ⟨r, rfl, hr⟩ := to_row ys c3
      rw [List.length_map, rng_len] at c2
      have s1 := ev_append2 (V := UN (n + 1)) (i := 6) (l := [some (.ref 0), some (.d (nD t)), some (.d (nD most)), some (.d x), none, some (.d (nD (1 + k0))), some (.ref 1), o7]) (S := [.lst hd2, .lst (δ.map rowD)]) (S1 := [.lst hd3, .lst (δ.map rowD)]) (x := rowD r) rfl rfl (ev_bi1 (b := .tup) c1 rfl) rfl (by rw [List.length_map]; show δ.length < 16777216; omega)
      refine ⟨_, _, _, rfl, (evSs_cons s1).trans rfl, some (.d x), o7, hd3, δ ++ [r], rfl, by simp, hH3, by simp [hlen], fun z hz => ?_⟩
      rcases List.mem_append.mp hz with q | q
      · exact hrows z q
      · rw [List.mem_singleton.mp q]; exact ⟨c2, hr⟩)
  rw [rng_len, Nat.zero_add] at hlen
  obtain ⟨ys, S1, c1, c2, hd3, hH3, rfl⟩ := ev_comp_sub (V := UN (n + 1)) (elt := x_law_machine_1e) (cn := .cmp .eq (.call 39 "_law_draw" (.cons (.var 0) (.cons (.lit (.int 2)) .nil))) (.lit (.int 0))) (t := .nm 3) (own := [3]) (l := [some (.ref 0), some (.d (nD t)), some (.d (nD most)), o3, none, some (.d (nD (1 + k0))), some (.ref 1), o7]) (S := [.lst hd2, .lst (δ.map rowD)]) (fun S' => ∃ hd3, Hd hd3 ∧ S' = [.lst hd3, .lst (δ.map rowD)])
    (ev_rng1 (ev_var (i := 5) rfl) (wide_nat (by omega))) ⟨hd2, hH2, rfl⟩ (fun x hx S' hS => by
      obtain ⟨hd3, hH3, rfl⟩ := hS
      obtain ⟨k, hd4, q1, q2, q3⟩ := c_draw n (r := 0) (St := [.lst hd3, .lst (δ.map rowD)]) (hd := hd3) (many := 2) rfl hH3 (by omega) (by omega)
      exact ⟨_, _, _, rfl, ev_cmp (cn_callN (evEs_cons (ev_var rfl) (evEs_cons ev_lit evEs_nil)) q3) ev_lit (eq0 k), ⟨hd4, q2, rfl⟩, ev_var rfl⟩) (by rw [rng_len]; show 1 + k0 ≤ 16777216; omega)
  rw [rngD_nD] at c2
  obtain ⟨E, hE, rfl⟩ := List.sublist_map_iff.mp c2
  have mch : Mch t δ E := ⟨ht, ⟨by omega, fun r hr => (hrows r hr).1, fun r hr x hx => by rw [hlen]; exact (hrows r hr).2 x hx⟩, by omega, (List.pairwise_lt_range (n := 1 + k0)).sublist hE, fun x hx => by rw [hlen]; exact List.mem_range.mp (hE.subset hx)⟩
  refine ⟨δ, E, hd3, hH3, mch, by omega, ?_⟩
  rw [cn_at (F := d_law_machine.fn) rfl]
  have a4 := ev_asgD (V := UN (n + 1)) (i := 4) (l := [some (.ref 0), some (.d (nD t)), some (.d (nD most)), o3, none, some (.d (nD (1 + k0))), some (.ref 1), o7]) (S := [.lst hd2, .lst (δ.map rowD)]) (ev_bi1 (b := .tup) (z := rowD E) c1 rfl)
  have a5 := ev_tupN (V := UN (n + 1)) (l := [some (.ref 0), some (.d (nD t)), some (.d (nD most)), o3, some (.d (rowD E)), some (.d (nD (1 + k0))), some (.ref 1), o7]) (S := [.lst hd3, .lst (δ.map rowD)]) (ds := [nD t, stD δ, rowD E]) (evEs_cons (ev_var (i := 1) rfl) (evEs_cons (ev_tupR (i := 6) (a := 1) rfl rfl) (evEs_cons (ev_var (i := 4) rfl) evEs_nil)))
  exact (run_ret (F := d_law_machine.fn) rfl ((evSs_cons a0).trans ((evSs_cons ((ev_for (ev_rng1 (ev_var (i := 5) rfl) (wide_nat (by omega)))).trans h1)).trans ((evSs_cons a4).trans (evSs_ret (ev_ret a5)))))).trans rfl
end K04
end

section
set_option Elab.async false
set_option linter.all false
set_option maxRecDepth 100000
set_option maxHeartbeats 4000000
namespace K04
open PySem EV
/-! ### the words of errors -/
def wrd : Nat → List Nat
  | 3 => [109, 97, 99, 104, 105, 110, 101]
  | 2 => [114, 111, 119]
  | 4 => [112, 97, 105, 114]
  | _ => [115, 105, 122, 101]
theorem ev_callv0 {V : EV.Env} {l : EV.Loc} {S : Sto} {fl : Nat} {cs : List Vl} (h : l[0]? = some (some (.clo fl cs))) : evE V (.callv 0 .nil) l S = V.cf fl cs S := by
  simp only [evE, h, evEs, R.bind_ok, List.all_nil, if_true, List.append_nil]
theorem sub_t : ((List.range 5).all fun i => i == 0 || (List.range 7).all fun j => j == 5 || decide (T.sub i j = some (i == j || j == 0 || j == 6))) = true := by decide +kernel
theorem sub_at {i j : Nat} (h0 : 1 ≤ i) (hi : i < 5) (hj : j < 7) (h5 : j ≠ 5) : T.sub i j = some (i == j || j == 0 || j == 6) := by
  have h := sub_t
  rw [List.all_eq_true] at h
  have h1 := h i (List.mem_range.mpr hi)
  rw [Bool.or_eq_true, beq_iff_eq] at h1
  rcases h1 with h1 | h1
  · omega
  · rw [List.all_eq_true] at h1
    have h2 := h1 j (List.mem_range.mpr hj)
    rw [Bool.or_eq_true, beq_iff_eq] at h2
    rcases h2 with h2 | h2
    · exact absurd h2 h5
    · exact of_decide_eq_true h2
theorem c_word (n : Nat) {fl k : Nat} {cs : List Vl} {S S' : Sto} (h1 : 1 ≤ k) (h4 : k ≤ 4) (h : CN n fl cs S = .exc k [] S') : CN (n + 1) 47 [.clo fl cs] S = .ok (.d (.str (wrd k))) (S'.take S.length) := by
  rw [cn_at (F := d_law_word.fn) rfl]
  have e : evE (UN n) (.callv 0 .nil) [some (.clo fl cs), some (.d (.str [116, 111, 108, 100])), none, none, none] S = .exc k [] S' := (ev_callv0 rfl).trans h
  have b : evSs (UN n) (.cons (.ex (.callv 0 .nil)) .nil) [some (.clo fl cs), some (.d (.str [116, 111, 108, 100])), none, none, none] S = .exc k [] [some (.clo fl cs), some (.d (.str [116, 111, 108, 100])), none, none, none] S' := evSs_exc (ev_exX e)
  have s0 := sub_at h1 (j := 0) (by omega) (by omega) (by omega)
  have s1 := sub_at h1 (j := 1) (by omega) (by omega) (by omega)
  have s2 := sub_at h1 (j := 2) (by omega) (by omega) (by omega)
  have s3 := sub_at h1 (j := 3) (by omega) (by omega) (by omega)
  have s4 := sub_at h1 (j := 4) (by omega) (by omega) (by omega)
  have s6 := sub_at h1 (j := 6) (by omega) (by omega) (by omega)
  have key : ∃ o3 o4, evS (UN n) (.try_ (.cons (.ex (.callv 0 .nil)) .nil) 0 "SayError" 2 (.cons (.asg (.nm 3) (.lst (.cons (.isx 2 "NoMachine" 3) (.cons (.isx 2 "NoRow" 2) (.cons (.isx 2 "NoPair" 4) (.cons (.isx 2 "NoSize" 1) .nil))))))
  (.cons (.asg (.nm 1) (.lit (.str [111, 116, 104, 101, 114])))
  (.cons (.ife (.and (.cmp .eq (.mt .lcnt (.var 3) (.cons (.lit (.bl true)) .nil)) (.lit (.int 1))) (.isx 2 "ValueError" 6)) (.cons (.asg (.nm 4) (.lst (.cons (.lit (.str [109, 97, 99, 104, 105, 110, 101])) (.cons (.lit (.str [114, 111, 119])) (.cons (.lit (.str [112, 97, 105, 114])) (.cons (.lit (.str [115, 105, 122, 101])) .nil))))))
  (.cons (.asg (.nm 1) (.idx (.var 4) (.mt .lidx (.var 3) (.cons (.lit (.bl true)) .nil))))
  .nil)) .nil)
  .nil)))) [some (.clo fl cs), some (.d (.str [116, 111, 108, 100])), none, none, none] S = .nx [some (.clo fl cs), some (.d (.str (wrd k))), none, o3, o4] S' := by
    simp only [evS, b, s0]
    have hk : k = 1 ∨ k = 2 ∨ k = 3 ∨ k = 4 := by omega
    rcases hk with rfl | rfl | rfl | rfl <;> simp [evSs, evS, evE, evEs, evO, evC, evI, R.opt, RS.opt, setTV, setT, asBool, isTy, isTyD, cmV, dicOf, ditOf, keyT, peek, peeks, cmD, biV, biW, rprV, biD, idxV, idxD, slcV, slcD, mtV, mtApp, mtPure, mtTyp, mtD, opD, take, takes, keepS, runF, noX, s1, s2, s3, s4, s6, eqD, dep, ixI, noXl, noX, List.findIdx?_cons, wrd]
  obtain ⟨o3, o4, key⟩ := key
  exact run_ret (F := d_law_word.fn) rfl ((evSs_cons (ev_asgD ev_lit)).trans ((evSs_cons key).trans (evSs_ret (ev_ret (ev_var rfl)))))
theorem c_wordS (n : Nat) {fl k : Nat} {cs : List Vl} {S : Sto} (h1 : 1 ≤ k) (h4 : k ≤ 4) (h : CN n fl cs S = .exc k [] S) : CN (n + 1) 47 [.clo fl cs] S = .ok (.d (.str (wrd k))) S := by
  rw [c_word n h1 h4 h, take_self]
/-! ### what is none -/
def bads (t : Nat) (δ : Stp) : List D := [.non, .tup [], .int 5, .tup [nD t, stD δ], .tup [.int 5, stD δ, .tup []], .tup [.bl true, stD δ, .tup []], .tup [.int 0, .tup [], .tup []], .tup [nD t, .lst (δ.map rowD), .tup []], .tup [nD t, stD δ, .tup [nD δ.length]], .tup [nD t, .tup [.tup [.int 0]], .tup []], .tup [nD t, stD δ, .tup [.int 0, .int 0]]]
theorem bad_not (n : Nat) {t : Nat} {δ : Stp} {x : D} (ht : t ≤ 1) (h : OkS δ (2 * 2 ^ t)) (hl : δ.length ≤ 20) (hx : x ∈ bads t δ) (S : Sto) : CN (n + 6) 11 [.d x] S = .ok (.d (.bl false)) S := by
  have hp := h.pos
  simp only [bads, List.mem_cons, List.not_mem_nil, or_false] at hx
  rcases hx with rfl | rfl | rfl | rfl | rfl | rfl | rfl | rfl | rfl | rfl | rfl
  · exact c_machine_s n S rfl
  · exact c_machine_s n S rfl
  · exact c_machine_s n S rfl
  · exact c_machine_s n S rfl
  · exact c_machine_t n S rfl
  · exact c_machine_t n S rfl
  · exact c_machine3 (r := false) (s := false) n S rfl (c_steps_no (t := 0) (n + 2) S rfl) ⟨[], .inr rfl⟩ (fun _ _ z => by cases z)
  · exact c_machine3 (r := false) (s := false) n S (w_tr (by omega)) (c_steps_no (n + 2) S rfl) ⟨[], .inr rfl⟩ (fun _ _ z => by cases z)
  · have := c_machineE n (t := t) (δ := δ) (E := [δ.length]) S (by omega) h (by omega) (by simp)
    have e : (([δ.length] : List Nat).all fun x => decide (x < δ.length)) = false := by simp
    rw [e] at this
    exact this
  · exact c_machine3 (r := false) (s := false) n S (w_tr (by omega)) (c_steps_short (n + 2) S (by omega)) ⟨[], .inr rfl⟩ (fun _ _ z => by cases z)
  · have := c_machineE n (t := t) (δ := δ) (E := [0, 0]) S (by omega) h (by omega) (by simp)
    have e : ((([0, 0] : List Nat).all fun x => decide (x < δ.length)) && risB [0, 0]) = false := by simp [risB]
    rw [e] at this
    exact this
def odds : List D := [.non, .int 5, .lst [.int 0], .tup [.int 9], .tup [.int (-1)], .tup [.bl true], .tup (List.replicate 41 (.int 0)), .str [48]]
theorem odd0 : (odds.all fun y => !isRow 0 y) = true := by decide +kernel
theorem odd1 : (odds.all fun y => !isRow 1 y) = true := by decide +kernel
theorem odd_not {t : Nat} {x : D} (ht : t ≤ 1) (hx : x ∈ odds) : isRow t x = false := by
  rcases (by omega : t = 0 ∨ t = 1) with e | e
  · subst e
    have h := List.all_eq_true.mp odd0 x hx
    simpa using h
  · subst e
    have h := List.all_eq_true.mp odd1 x hx
    simpa using h
/-- no machine -/
def Bad (x : D) : Prop := ∀ (n : Nat) (S : Sto), CN (n + 6) 11 [.d x] S = .ok (.d (.bl false)) S
section
variable {n t : Nat} {δ : Stp} {E : List Nat}
theorem x_chk {x : D} {S : Sto} (h : CN (n + 6) 11 [.d x] S = .ok (.d (.bl false)) S) : CN (n + 7) 12 [.d x] S = .exc 3 [] S := (c_chk (n + 6) h).trans rfl
theorem x_reached {x : D} {S : Sto} (h : CN (n + 6) 11 [.d x] S = .ok (.d (.bl false)) S) : CN (n + 8) 20 [.d x] S = .exc 3 [] S := by
  rw [cn_at (F := d_reached.fn) rfl]
  exact run_exc rfl (evSs_exc (ev_exX (cn_call1 (ev_var rfl) (x_chk h)))) (take_self _)
theorem x_rows {x y : D} {S : Sto} (h : CN (n + 6) 11 [.d x] S = .ok (.d (.bl false)) S) : CN (n + 8) 37 [.d x, .d y] S = .exc 3 [] S := by
  rw [cn_at (F := d_rows_many.fn) rfl]
  exact run_exc rfl (evSs_exc (ev_exX (cn_call1 (ev_var rfl) (x_chk h)))) (take_self _)
theorem x_size {y : D} {S : Sto} (h : Mch t δ E) (hy : isW y 0 40 = false) : CN (n + 8) 37 [.d (mD t δ E), .d y] S = .exc 1 [] S := by
  rw [cn_at (F := d_rows_many.fn) rfl]
  have e := c_chksize (n + 4) y S
  rw [hy] at e
  exact run_exc rfl ((evSs_cons (ev_ex (cn_call1 (ev_var rfl) (c_chkm n S h)))).trans (evSs_exc (ev_exX (cn_callN (evEs_cons (ev_var rfl) (evEs_cons ev_globD evEs_nil)) e)))) (take_self _)
theorem x_pair1 {x y : D} {S : Sto} (h : CN (n + 6) 11 [.d x] S = .ok (.d (.bl false)) S) : CN (n + 8) 30 [.d x, .d y] S = .exc 3 [] S := by
  rw [cn_at (F := d_check_pair.fn) rfl]
  exact run_exc rfl (evSs_exc (ev_exX (cn_call1 (ev_var rfl) (x_chk h)))) (take_self _)
theorem x_pair2 {x : D} {S : Sto} (hm : Mch t δ E) (h : CN (n + 6) 11 [.d x] S = .ok (.d (.bl false)) S) : CN (n + 8) 30 [.d (mD t δ E), .d x] S = .exc 3 [] S := by
  rw [cn_at (F := d_check_pair.fn) rfl]
  exact run_exc rfl ((evSs_cons (ev_ex (cn_call1 (ev_var rfl) (c_chkm n S hm)))).trans (evSs_exc (ev_exX (cn_call1 (ev_var rfl) (x_chk h))))) (take_self _)
theorem x_join (f : Nat) (F : Fn) (hF : T.fs[f]? = some F) {x y : D} {S : Sto} {k : Nat} (hb : ∃ ss, F = ⟨2, 2, .cons (.ex (.call 30 "check_pair" (.cons (.var 0) (.cons (.var 1) .nil)))) ss⟩) (h : CN (n + 8) 30 [.d x, .d y] S = .exc k [] S) : CN (n + 9) f [.d x, .d y] S = .exc k [] S := by
  obtain ⟨ss, rfl⟩ := hb
  rw [cn_at hF]
  exact run_exc rfl (evSs_exc (ev_exX (cn_callN (evEs_cons (ev_var rfl) (evEs_cons (ev_var rfl) evEs_nil)) h))) (take_self _)
/-! the lambdas -/
theorem x_lam {n fl : Nat} {e : LE} {k : Nat} {vs : List Vl} {S : Sto} (hF : T.fs[fl]? = some ⟨vs.length, vs.length, .cons (.ret e) .nil⟩) (h : evE (UN n) e (vs.map some) S = .exc k [] S) : CN (n + 1) fl vs S = .exc k [] S := by
  rw [cn_at hF]
  exact run_lamX rfl rfl (by simpa using h)
theorem x_lam' {n fl : Nat} {e : LE} {k : Nat} {vs : List Vl} {S S' : Sto} (hF : T.fs[fl]? = some ⟨vs.length, vs.length, .cons (.ret e) .nil⟩) (h : evE (UN n) e (vs.map some) S = .exc k [] S') : CN (n + 1) fl vs S = .exc k [] (S'.take S.length) := by
  rw [cn_at hF]
  unfold runF
  refine (if_pos rfl).trans ?_
  have e0 : vs.map some ++ List.replicate (vs.length - vs.length) none = vs.map some := by simp
  simp only [e0, evSs, evS, h, R.st_exc]
theorem x62 {x : D} (h : Bad x) (n : Nat) (S : Sto) : CN (n + 9) 62 [.d x] S = .exc 3 [] S :=
  x_lam (e := .call 20 "reached" (.cons (.var 0) .nil)) rfl (cn_call1 (ev_var rfl) (x_reached (n := n) (h n S)))
theorem x61 {x y : D} (h : Bad x) (n : Nat) (S : Sto) : CN (n + 10) 61 [.d x, .d y] S = .exc 3 [] S :=
  x_lam (e := .call 15 "state_after" (.cons (.var 0) (.cons (.var 1) .nil))) rfl (cn_callN (evEs_cons (ev_var rfl) (evEs_cons (ev_var rfl) evEs_nil)) (c_after_x n 15 d_state_after.fn rfl 3 S ⟨_, rfl⟩ (c_chkread_m n S (h n S))))
theorem x60 {x : D} (hm : Mch t δ E) (h : Bad x) (n : Nat) (S : Sto) : CN (n + 10) 60 [.d (mD t δ E), .d x] S = .exc 3 [] S :=
  x_lam (e := .call 31 "both" (.cons (.var 0) (.cons (.var 1) .nil))) rfl (cn_callN (evEs_cons (ev_var rfl) (evEs_cons (ev_var rfl) evEs_nil)) (x_join 31 d_both.fn rfl ⟨_, rfl⟩ (x_pair2 (n := n) hm (h n S))))
theorem x59 {x : D} (h : Bad x) (n : Nat) (S : Sto) : CN (n + 10) 59 [.d x] S = .exc 3 [] S :=
  x_lam (e := .call 33 "just_one" (.cons (.var 0) (.cons (.lit .non) .nil))) rfl (cn_callN (evEs_cons (ev_var rfl) (evEs_cons ev_lit evEs_nil)) (x_join 33 d_just_one.fn rfl ⟨_, rfl⟩ (x_pair1 (n := n) (h n S))))
theorem x58 {x : D} (h : Bad x) (n : Nat) (S : Sto) : CN (n + 9) 58 [.d x] S = .exc 3 [] S :=
  x_lam (e := .call 37 "rows_many" (.cons (.var 0) (.cons (.lit (.int 99)) .nil))) rfl (cn_callN (evEs_cons (ev_var rfl) (evEs_cons ev_lit evEs_nil)) (x_rows (n := n) (h n S)))
theorem x57 {x : D} (hm : Mch t δ E) (hx : isRow t x = false) (n : Nat) (S : Sto) : CN (n + 10) 57 [.d (mD t δ E), .d x] S = .exc 2 [] S := by
  have e := c_chkread n x S hm
  rw [hx] at e
  exact x_lam (e := .call 17 "takes" (.cons (.var 0) (.cons (.var 1) .nil))) rfl (cn_callN (evEs_cons (ev_var rfl) (evEs_cons (ev_var rfl) evEs_nil)) (c_after_x n 17 d_takes.fn rfl 2 S ⟨_, rfl⟩ e))
theorem x56 {x : D} (hm : Mch t δ E) (hx : isRow t x = false) (n : Nat) (S : Sto) : CN (n + 10) 56 [.d (mD t δ E), .d x] S = .exc 2 [] S := by
  have e := c_chkread n x S hm
  rw [hx] at e
  exact x_lam (e := .call 15 "state_after" (.cons (.var 0) (.cons (.var 1) .nil))) rfl (cn_callN (evEs_cons (ev_var rfl) (evEs_cons (ev_var rfl) evEs_nil)) (c_after_x n 15 d_state_after.fn rfl 2 S ⟨_, rfl⟩ e))
theorem x55 {u : Nat} {ε : Stp} {F : List Nat} (hm : Mch t δ E) (h2 : Mch u ε F) (hn : t ≠ u) (n : Nat) (S : Sto) : CN (n + 10) 55 [.d (mD t δ E), .d (mD u ε F)] S = .exc 4 [] S :=
  x_lam (e := .call 32 "either" (.cons (.var 0) (.cons (.var 1) .nil))) rfl (cn_callN (evEs_cons (ev_var rfl) (evEs_cons (ev_var rfl) evEs_nil)) (x_join 32 d_either.fn rfl ⟨_, rfl⟩ ((c_chkpair n hm h2 S).trans (if_neg hn))))
def sizes : List D := [.int (-1), .int 41, .non, .bl true, .str [51]]
theorem size_not {x : D} (h : x ∈ sizes) : isW x 0 40 = false := by
  simp only [sizes, List.mem_cons, List.not_mem_nil, or_false] at h
  rcases h with rfl | rfl | rfl | rfl | rfl <;> rfl
theorem x54 (hm : Mch t δ E) (n : Nat) {hd : List D} (hH : Hd hd) : ∃ hd', Hd hd' ∧ CN (n + 9) 54 [.d (mD t δ E), .ref 0] [.lst hd] = .exc 1 [] [.lst hd'] := by
  obtain ⟨k, x, hd', hk, hH', hs⟩ := c_some (n + 6) (r := 0) (St := [.lst hd]) (hd := hd) (xs := sizes) rfl hH (by simp [sizes]) (by simp [sizes])
  refine ⟨hd', hH', ?_⟩
  have e1 : evE (UN (n + 8)) (.call 40 "_law_some" (.cons (.var 1) (.cons (.lst (.cons (.neg (.lit (.int 1))) (.cons (.lit (.int 41)) (.cons (.lit (.non)) (.cons (.lit (.bl true)) (.cons (.lit (.str [51])) .nil)))))) .nil))) [some (.d (mD t δ E)), some (.ref 0)] [.lst hd] = .ok (.d x) [.lst hd'] := by
    have en : evE (UN (n + 8)) (.neg (.lit (.int 1))) [some (.d (mD t δ E)), some (.ref 0)] [.lst hd] = .ok (.d (.int (-1))) [.lst hd] := by simp [evSs, evS, evE, evEs, evO, evC, evI, R.opt, RS.opt, setTV, setT, asBool, isTy, isTyD, cmV, dicOf, ditOf, keyT, peek, peeks, cmD, biV, biW, rprV, biD, idxV, idxD, slcV, slcD, mtV, mtApp, mtPure, mtTyp, mtD, opD, take, takes, keepS, runF, noX, R.bind]
    exact cn_callN (evEs_cons (ev_var rfl) (evEs_cons (ev_lstN (ds := sizes) (evEs_cons en (evEs_cons ev_lit (evEs_cons ev_lit (evEs_cons ev_lit (evEs_cons ev_lit evEs_nil)))))) evEs_nil)) hs
  have e2 := cn_callN (n := n + 8) (f := 37) (x := "rows_many") (evEs_cons (ev_var (i := 0) (l := [some (.d (mD t δ E)), some (.ref 0)]) rfl) (evEs_cons e1 evEs_nil)) (x_size (n := n) (y := x) (S := [.lst hd']) hm (size_not (List.mem_of_getElem? hk)))
  exact x_lam' (vs := [.d (mD t δ E), .ref 0]) rfl e2
end
end K04
end

section
set_option Elab.async false
set_option linter.all false
set_option maxRecDepth 100000
set_option maxHeartbeats 4000000
namespace K04
open PySem EV
section
variable {n t : Nat} {δ : Stp} {E : List Nat}
theorem ev_clo {V : EV.Env} {f : Nat} {cs : List Nat} {vs : List Vl} {l : EV.Loc} {S : Sto} (h : capsOf l cs = some vs) (hp : vs.all plainV = true) : evE V (.lam f cs) l S = .ok (.clo f vs) S := by
  simp only [evE, h, R.opt_some, hp, if_true]
/-- a word asked of a lambda -/
theorem ev_word {n f k : Nat} {cs : List Nat} {vs : List Vl} {l : EV.Loc} {S : Sto} (hc : capsOf l cs = some vs) (hp : vs.all plainV = true) (h1 : 1 ≤ k) (h4 : k ≤ 4) (h : CN n f vs S = .exc k [] S) : evE (UN (n + 1)) (.call 47 "_law_word" (.cons (.lam f cs) .nil)) l S = .ok (.d (.str (wrd k))) S :=
  cn_call1 (ev_clo hc hp) (c_wordS n h1 h4 h)
def LR (hd0 : Option Vl) (t : Nat) (δ : Stp) (E : List Nat) (b h o x y : Option Vl) : EV.Loc := [hd0, some (.d (mD t δ E)), some (.d (stD δ)), b, h, o, x, y]
theorem zeros_ok : OkS [[0, 0, 0, 0]] 4 ∧ OkS [[0, 0]] 2 := ⟨⟨by decide, by decide, by decide⟩, ⟨by decide, by decide, by decide⟩⟩
theorem ev_other {V : EV.Env} {l : EV.Loc} {S : Sto} (hm : Mch t δ E) (h : l[1]? = some (some (.d (mD t δ E)))) :
    ∃ u ε, Mch u ε [] ∧ t ≠ u ∧ evE V (.tup (.cons (.op .sub (.lit (.int 1)) (.idx (.var 1) (.lit (.int 0)))) (.cons (.tup (.cons (.op .mul (.tup (.cons (.lit (.int 0)) .nil)) (.op .sub (.lit (.int 4)) (.op .mul (.lit (.int 2)) (.idx (.var 1) (.lit (.int 0)))))) .nil)) (.cons (.tup .nil) .nil)))) l S = .ok (.d (mD u ε [])) S := by
  have ht := hm.tr
  have i0 : evE V (.idx (.var 1) (.lit (.int 0))) l S = .ok (.d (nD t)) S := ev_ix0 (ev_var h)
  rcases (by omega : t = 0 ∨ t = 1) with e | e
  · subst e
    refine ⟨1, [[0, 0, 0, 0]], ⟨by omega, zeros_ok.1, by decide, by simp, by simp⟩, by omega, ?_⟩
    exact ev_tupN (ds := [nD 1, stD [[0, 0, 0, 0]], rowD []]) (evEs_cons (ev_op ev_lit i0 rfl) (evEs_cons (ev_tup1 (ev_op (ev_tup1 ev_lit) (ev_op ev_lit (ev_op ev_lit i0 rfl) rfl) rfl)) (evEs_cons (ev_tupN (ds := []) evEs_nil) evEs_nil)))
  · subst e
    refine ⟨0, [[0, 0]], ⟨by omega, zeros_ok.2, by decide, by simp, by simp⟩, by omega, ?_⟩
    exact ev_tupN (ds := [nD 0, stD [[0, 0]], rowD []]) (evEs_cons (ev_op ev_lit i0 rfl) (evEs_cons (ev_tup1 (ev_op (ev_tup1 ev_lit) (ev_op ev_lit (ev_op ev_lit i0 rfl) rfl) rfl)) (evEs_cons (ev_tupN (ds := []) evEs_nil) evEs_nil)))
theorem c_refused (n : Nat) (hm : Mch t δ E) {hd : List D} (hH : Hd hd) : ∃ hd', Hd hd' ∧ CN (n + 13) 51 [.ref 0, .d (mD t δ E)] [.lst hd] = .ok (.d (.bl true)) [.lst hd'] := by
  have ht := hm.tr
  obtain ⟨k1, bad, hd1, hk1, hH1, d1⟩ := c_some (n + 10) (r := 0) (St := [.lst hd]) (hd := hd) (xs := bads t δ) rfl hH (by simp [bads]) (by simp [bads])
  obtain ⟨k2, odd, hd2, hk2, hH2, d2⟩ := c_some (n + 10) (r := 0) (St := [.lst hd1]) (hd := hd1) (xs := odds) rfl hH1 (by simp [odds]) (by simp [odds])
  have hb : Bad bad := fun n S => bad_not n ht hm.ok hm.sz (List.mem_of_getElem? hk1) S
  have ho := odd_not ht (List.mem_of_getElem? hk2)
  obtain ⟨hd3, hH3, d3⟩ := x54 hm (n + 2) hH2
  refine ⟨hd3, hH3, ?_⟩
  rw [cn_at (F := d_law_are_refused.fn) rfl]
  have a1 := ev_asgD (V := UN (n + 12)) (i := 2) (l := [some (.ref 0), some (.d (mD t δ E)), none, none, none, none, none, none]) (S := [.lst hd]) (ev_ix1 (x := nD t) (y := stD δ) (ds := [rowD E]) (ev_var (i := 1) rfl))
  have i0 : ∀ (b h o x y : Option Vl) (S : Sto), evE (UN (n + 12)) (.idx (.var 1) (.lit (.int 0))) (LR (some (.ref 0)) t δ E b h o x y) S = .ok (.d (nD t)) S := fun b h o x y S => ev_ix0 (x := nD t) (ds := [stD δ, rowD E]) (ev_var rfl)
  have v2 : ∀ (b h o x y : Option Vl) (S : Sto), evE (UN (n + 12)) (.var 2) (LR (some (.ref 0)) t δ E b h o x y) S = .ok (.d (stD δ)) S := fun b h o x y S => ev_var rfl
  have e0 : ∀ (l : EV.Loc) (S : Sto), evE (UN (n + 12)) (.tup .nil) l S = .ok (.d (.tup [])) S := fun l S => ev_tupN (ds := []) evEs_nil
  have sl : evE (UN (n + 12)) (.slc (.var 1) .no (.yes (.lit (.int 2)))) (LR (some (.ref 0)) t δ E none none none none none) [.lst hd] = .ok (.d (.tup [nD t, stD δ])) [.lst hd] := by
    simp [evSs, evS, evE, evEs, evO, evC, evI, R.opt, RS.opt, setTV, setT, asBool, isTy, isTyD, cmV, dicOf, ditOf, keyT, peek, peeks, cmD, biV, biW, rprV, biD, idxV, idxD, slcV, slcD, mtV, mtApp, mtPure, mtTyp, mtD, opD, take, takes, keepS, runF, noX, LR, mD, cut, loI, hiI, clip, R.bind]
  have a2 := ev_asgD (V := UN (n + 12)) (i := 3) (l := LR (some (.ref 0)) t δ E none none none none none) (S := [.lst hd]) (ev_lstN (ds := (bads t δ).take 8) (evEs_cons (ev_lit (d := .non)) (evEs_cons (e0 _ _) (evEs_cons (ev_lit (d := .int 5)) (evEs_cons sl
    (evEs_cons (ev_tupN (ds := [.int 5, stD δ, .tup []]) (evEs_cons ev_lit (evEs_cons (v2 _ _ _ _ _ _) (evEs_cons (e0 _ _) evEs_nil))))
    (evEs_cons (ev_tupN (ds := [.bl true, stD δ, .tup []]) (evEs_cons ev_lit (evEs_cons (v2 _ _ _ _ _ _) (evEs_cons (e0 _ _) evEs_nil))))
    (evEs_cons (ev_tupN (ds := [.int 0, .tup [], .tup []]) (evEs_cons ev_lit (evEs_cons (e0 _ _) (evEs_cons (e0 _ _) evEs_nil))))
    (evEs_cons (ev_tupN (ds := [nD t, .lst (δ.map rowD), .tup []]) (evEs_cons (i0 _ _ _ _ _ _) (evEs_cons (ev_bi1 (b := .lst) (v2 _ _ _ _ _ _) rfl) (evEs_cons (e0 _ _) evEs_nil))))
    evEs_nil)))))))))
  have a3 := ev_asgD (V := UN (n + 12)) (i := 3) (l := LR (some (.ref 0)) t δ E (some (.d (.lst ((bads t δ).take 8)))) none none none none) (S := [.lst hd]) (ev_op (o := .add) (z := .lst (bads t δ)) (ev_var (i := 3) rfl) (ev_lstN (ds := (bads t δ).drop 8)
    (evEs_cons (ev_tupN (ds := [nD t, stD δ, .tup [nD δ.length]]) (evEs_cons (i0 _ _ _ _ _ _) (evEs_cons (v2 _ _ _ _ _ _) (evEs_cons (ev_tup1 ((ev_lenT (v2 _ _ _ _ _ _)).trans (by rw [len_stD]))) evEs_nil))))
    (evEs_cons (ev_tupN (ds := [nD t, .tup [.tup [.int 0]], .tup []]) (evEs_cons (i0 _ _ _ _ _ _) (evEs_cons (ev_tup1 (ev_tup1 ev_lit)) (evEs_cons (e0 _ _) evEs_nil))))
    (evEs_cons (ev_tupN (ds := [nD t, stD δ, .tup [.int 0, .int 0]]) (evEs_cons (i0 _ _ _ _ _ _) (evEs_cons (v2 _ _ _ _ _ _) (evEs_cons (ev_tup2 ev_lit ev_lit) evEs_nil))))
    evEs_nil)))) rfl)
  have eo : evE (UN (n + 12)) (.lst (.cons (.lit (.non)) (.cons (.lit (.int 5)) (.cons (.lst (.cons (.lit (.int 0)) .nil)) (.cons (.tup (.cons (.lit (.int 9)) .nil)) (.cons (.tup (.cons (.neg (.lit (.int 1))) .nil)) (.cons (.tup (.cons (.lit (.bl true)) .nil)) (.cons (.op .mul (.tup (.cons (.lit (.int 0)) .nil)) (.lit (.int 41))) (.cons (.lit (.str [48])) .nil))))))))) (LR (some (.ref 0)) t δ E (some (.d (.lst (bads t δ)))) none none none none) [.lst hd1] = .ok (.d (.lst odds)) [.lst hd1] := by
    have en : evE (UN (n + 12)) (.neg (.lit (.int 1))) (LR (some (.ref 0)) t δ E (some (.d (.lst (bads t δ)))) none none none none) [.lst hd1] = .ok (.d (.int (-1))) [.lst hd1] := by simp [evSs, evS, evE, evEs, evO, evC, evI, R.opt, RS.opt, setTV, setT, asBool, isTy, isTyD, cmV, dicOf, ditOf, keyT, peek, peeks, cmD, biV, biW, rprV, biD, idxV, idxD, slcV, slcD, mtV, mtApp, mtPure, mtTyp, mtD, opD, take, takes, keepS, runF, noX, R.bind]
    exact ev_lstN (ds := odds) (evEs_cons ev_lit (evEs_cons ev_lit (evEs_cons (ev_lst1 ev_lit) (evEs_cons (ev_tup1 ev_lit) (evEs_cons (ev_tup1 en) (evEs_cons (ev_tup1 ev_lit) (evEs_cons (ev_op (ev_tup1 ev_lit) ev_lit rfl) (evEs_cons ev_lit evEs_nil))))))))
  have a4 : evS (UN (n + 12)) (.parN [6, 7] (.cons (.call 40 "_law_some" (.cons (.var 0) (.cons (.var 3) .nil))) (.cons (.call 40 "_law_some" (.cons (.var 0) (.cons (.lst (.cons (.lit (.non)) (.cons (.lit (.int 5)) (.cons (.lst (.cons (.lit (.int 0)) .nil)) (.cons (.tup (.cons (.lit (.int 9)) .nil)) (.cons (.tup (.cons (.neg (.lit (.int 1))) .nil)) (.cons (.tup (.cons (.lit (.bl true)) .nil)) (.cons (.op .mul (.tup (.cons (.lit (.int 0)) .nil)) (.lit (.int 41))) (.cons (.lit (.str [48])) .nil))))))))) .nil))) .nil))) (LR (some (.ref 0)) t δ E (some (.d (.lst (bads t δ)))) none none none none) [.lst hd] =
      .nx (LR (some (.ref 0)) t δ E (some (.d (.lst (bads t δ)))) none none (some (.d bad)) (some (.d odd))) [.lst hd2] := by
    have q1 := cn_callN (n := n + 12) (f := 40) (x := "_law_some") (evEs_cons (ev_var (i := 0) (l := LR (some (.ref 0)) t δ E (some (.d (.lst (bads t δ)))) none none none none) (S := [.lst hd]) rfl) (evEs_cons (ev_var (i := 3) rfl) evEs_nil)) d1
    have q2 := cn_callN (n := n + 12) (f := 40) (x := "_law_some") (evEs_cons (ev_var (i := 0) (l := LR (some (.ref 0)) t δ E (some (.d (.lst (bads t δ)))) none none none none) (S := [.lst hd1]) rfl) (evEs_cons eo evEs_nil)) d2
    have q := evEs_cons q1 (evEs_cons q2 evEs_nil)
    simp only [evS, q, R.st_ok]
    rfl
  have a5 : evE (UN (n + 12)) (.cmp .isnot (.call 11 "is_machine" (.cons (.var 6) .nil)) (.lit (.bl false))) (LR (some (.ref 0)) t δ E (some (.d (.lst (bads t δ)))) none none (some (.d bad)) (some (.d odd))) [.lst hd2] = .ok (.d (.bl false)) [.lst hd2] :=
    ev_cmp (cn_call1 (ev_var (i := 6) rfl) (hb (n + 6) _)) ev_lit rfl
  have a6 := ev_asgD (V := UN (n + 12)) (i := 4) (l := LR (some (.ref 0)) t δ E (some (.d (.lst (bads t δ)))) none none (some (.d bad)) (some (.d odd))) (S := [.lst hd2]) (ev_lst2
    (ev_word (f := 62) (cs := [6]) (k := 3) (vs := [.d bad]) rfl rfl (by omega) (by omega) (x62 hb (n + 2) _))
    (ev_word (f := 61) (cs := [6, 7]) (k := 3) (vs := [.d bad, .d odd]) rfl rfl (by omega) (by omega) (x61 hb (n + 1) _)))
  have a7 := ev_asgD (V := UN (n + 12)) (i := 4) (l := LR (some (.ref 0)) t δ E (some (.d (.lst (bads t δ)))) (some (.d (.lst [.str (wrd 3), .str (wrd 3)]))) none (some (.d bad)) (some (.d odd))) (S := [.lst hd2]) (ev_op (o := .add) (z := .lst [.str (wrd 3), .str (wrd 3), .str (wrd 3), .str (wrd 3)]) (ev_var (i := 4) rfl) (ev_lst2
    (ev_word (f := 60) (cs := [1, 6]) (k := 3) (vs := [.d (mD t δ E), .d bad]) rfl rfl (by omega) (by omega) (x60 hm hb (n + 1) _))
    (ev_word (f := 59) (cs := [6]) (k := 3) (vs := [.d bad]) rfl rfl (by omega) (by omega) (x59 hb (n + 1) _))) rfl)
  have a8 : evE (UN (n + 12)) (.cmp .ne (.op .add (.var 4) (.lst (.cons (.call 47 "_law_word" (.cons (.lam 58 [6]) .nil)) .nil))) (.op .mul (.lst (.cons (.lit (.str [109, 97, 99, 104, 105, 110, 101])) .nil)) (.lit (.int 5)))) (LR (some (.ref 0)) t δ E (some (.d (.lst (bads t δ)))) (some (.d (.lst [.str (wrd 3), .str (wrd 3), .str (wrd 3), .str (wrd 3)]))) none (some (.d bad)) (some (.d odd))) [.lst hd2] = .ok (.d (.bl false)) [.lst hd2] :=
    ev_cmp (ev_op (o := .add) (z := .lst [.str (wrd 3), .str (wrd 3), .str (wrd 3), .str (wrd 3), .str (wrd 3)]) (ev_var (i := 4) rfl) (ev_lst1 (ev_word (f := 58) (cs := [6]) (k := 3) (vs := [.d bad]) rfl rfl (by omega) (by omega) (x58 hb (n + 2) _))) rfl) (ev_op (z := .lst [.str (wrd 3), .str (wrd 3), .str (wrd 3), .str (wrd 3), .str (wrd 3)]) (ev_lst1 ev_lit) ev_lit rfl) (by decide +kernel)
  have a9 : evE (UN (n + 12)) (.cmp .ne (.lst (.cons (.call 47 "_law_word" (.cons (.lam 57 [1, 7]) .nil)) (.cons (.call 47 "_law_word" (.cons (.lam 56 [1, 7]) .nil)) .nil))) (.op .mul (.lst (.cons (.lit (.str [114, 111, 119])) .nil)) (.lit (.int 2)))) (LR (some (.ref 0)) t δ E (some (.d (.lst (bads t δ)))) (some (.d (.lst [.str (wrd 3), .str (wrd 3), .str (wrd 3), .str (wrd 3)]))) none (some (.d bad)) (some (.d odd))) [.lst hd2] = .ok (.d (.bl false)) [.lst hd2] :=
    ev_cmp (ev_lst2 (ev_word (f := 57) (cs := [1, 7]) (k := 2) (vs := [.d (mD t δ E), .d odd]) rfl rfl (by omega) (by omega) (x57 hm ho (n + 1) _)) (ev_word (f := 56) (cs := [1, 7]) (k := 2) (vs := [.d (mD t δ E), .d odd]) rfl rfl (by omega) (by omega) (x56 hm ho (n + 1) _))) (ev_op (z := .lst [.str (wrd 2), .str (wrd 2)]) (ev_lst1 ev_lit) ev_lit rfl) (by decide +kernel)
  obtain ⟨u, ε, hm2, hne, hoth⟩ := ev_other (V := UN (n + 12)) (l := LR (some (.ref 0)) t δ E (some (.d (.lst (bads t δ)))) (some (.d (.lst [.str (wrd 3), .str (wrd 3), .str (wrd 3), .str (wrd 3)]))) none (some (.d bad)) (some (.d odd))) (S := [.lst hd2]) hm rfl
  have a10 := ev_asgD (i := 5) hoth
  have a11 : evE (UN (n + 12)) (.cmp .ne (.call 47 "_law_word" (.cons (.lam 55 [1, 5]) .nil)) (.lit (.str [112, 97, 105, 114]))) (LR (some (.ref 0)) t δ E (some (.d (.lst (bads t δ)))) (some (.d (.lst [.str (wrd 3), .str (wrd 3), .str (wrd 3), .str (wrd 3)]))) (some (.d (mD u ε []))) (some (.d bad)) (some (.d odd))) [.lst hd2] = .ok (.d (.bl false)) [.lst hd2] :=
    ev_cmp (ev_word (f := 55) (cs := [1, 5]) (k := 4) (vs := [.d (mD t δ E), .d (mD u ε [])]) rfl rfl (by omega) (by omega) (x55 hm hm2 hne (n + 1) _)) ev_lit (by decide +kernel)
  have a12 : evE (UN (n + 12)) (.cmp .eq (.call 47 "_law_word" (.cons (.lam 54 [1, 0]) .nil)) (.lit (.str [115, 105, 122, 101]))) (LR (some (.ref 0)) t δ E (some (.d (.lst (bads t δ)))) (some (.d (.lst [.str (wrd 3), .str (wrd 3), .str (wrd 3), .str (wrd 3)]))) (some (.d (mD u ε []))) (some (.d bad)) (some (.d odd))) [.lst hd2] = .ok (.d (.bl true)) [.lst hd3] :=
    ev_cmp (x := .str (wrd 1)) (cn_call1 (ev_clo (cs := [1, 0]) (vs := [.d (mD t δ E), .ref 0]) rfl rfl) (c_word (n + 11) (by omega) (by omega) d3)) ev_lit (by decide +kernel)
  exact (run_ret (F := d_law_are_refused.fn) rfl ((evSs_cons a1).trans ((evSs_cons a2).trans ((evSs_cons a3).trans ((evSs_cons a4).trans ((evSs_cons ((ev_if_f a5).trans rfl)).trans ((evSs_cons a6).trans ((evSs_cons a7).trans ((evSs_cons ((ev_if_f a8).trans rfl)).trans ((evSs_cons ((ev_if_f a9).trans rfl)).trans ((evSs_cons a10).trans ((evSs_cons ((ev_if_f a11).trans rfl)).trans (evSs_ret (ev_ret a12)))))))))))))).trans rfl
end
end K04
end

section
set_option Elab.async false
set_option linter.all false
set_option maxRecDepth 100000
set_option maxHeartbeats 4000000
namespace K04
open PySem EV
/-! ### told by repr -/
theorem mem_rl (m : Nat) : ∀ (k : Nat) (r : List Nat), r.length = k → (∀ a ∈ r, a < m) → r ∈ rl m k
  | 0, r, h, _ => by
    rw [List.length_eq_zero_iff.mp h]
    exact List.mem_singleton.mpr rfl
  | k + 1, r, h, ha => by
    have hne : r ≠ [] := fun e => by rw [e] at h; simp at h
    have e := List.dropLast_concat_getLast hne
    refine List.mem_flatMap.mpr ⟨r.dropLast, mem_rl m k _ (by rw [List.length_dropLast, h]; rfl) fun a hm => ha a (List.dropLast_subset r hm), List.mem_map.mpr ⟨r.getLast hne, List.mem_range.mpr (ha _ (List.getLast_mem hne)), e⟩⟩
theorem rl_rf (m : Nat) : ∀ k i, i ≤ k → ∀ r ∈ rl m i, r ∈ rf m k
  | 0, i, hi, r, h => by
    have : i = 0 := by omega
    subst this
    exact h
  | k + 1, i, hi, r, h => by
    by_cases e : i = k + 1
    · subst e
      exact List.mem_append_right _ h
    · exact List.mem_append_left _ (rl_rf m k i (by omega) r h)
theorem repr_all : ((rf 4 4).all fun r => (reprD (rowD r)).isSome) = true := by decide +kernel
theorem repr_non : ∃ x, reprD .non = some x := Option.isSome_iff_exists.mp (by decide +kernel)
theorem repr_row {r : List Nat} (hl : r.length ≤ 4) (ha : ∀ a ∈ r, a < 4) : ∃ x, reprD (rowD r) = some x :=
  Option.isSome_iff_exists.mp (List.all_eq_true.mp repr_all r (rl_rf 4 4 r.length hl r (mem_rl 4 _ r rfl ha)))
theorem repr_lr {L : List (List Nat)} (h : ∀ r ∈ L, r.length ≤ 4 ∧ ∀ a ∈ r, a < 4) : (∃ x, reprD (lr L) = some x) ∧ (∀ z, lr L ≠ .str z) := by
  cases L with
  | nil => exact ⟨repr_non, fun z e => by cases e⟩
  | cons r L =>
    obtain ⟨x, hx, e, _⟩ := lr_cons r L
    rw [e]
    exact ⟨repr_row (h x hx).1 (h x hx).2, fun z e => by cases e⟩
theorem ev_repr {V : EV.Env} {e : LE} {l : EV.Loc} {S S1 : Sto} {x : D} {z : List Nat} (h : evE V e l S = .ok (.d x) S1) (hz : reprD x = some z) (hn : ∀ z, x ≠ .str z) : evE V (.bi .repr (.cons e .nil)) l S = .ok (.d (.str z)) S1 := by
  have e1 : biV .repr [.d x] S1 = some (.str z) := by
    show rprV [.d x] = _
    cases x with
    | str s => exact absurd rfl (hn s)
    | _ => simp only [rprV, hz, Option.map_some]
  simp only [evE, evEs, h, R.bind_ok, e1, R.opt_some]
mutual
theorem eqD_refl : ∀ x : D, eqD x x = true
  | .non => rfl
  | .bl b => by simp [eqD]
  | .int i => by simp [eqD]
  | .str s => by simp [eqD]
  | .tup ds => by simp only [eqD]; exact eqDs_refl ds
  | .lst ds => by simp only [eqD]; exact eqDs_refl ds
theorem eqDs_refl : ∀ xs : List D, eqDs xs xs = true
  | [] => rfl
  | x :: xs => by simp only [eqDs, eqD_refl x, eqDs_refl xs, Bool.and_self]
end
theorem ne_self {x : D} (h : dep x ≤ 60) : cmD .ne x x = some false := by
  show (if min (dep x) (dep x) ≤ 60 then some (!eqD x x) else none) = _
  rw [if_pos (by rw [Nat.min_self]; exact h), eqD_refl]; rfl
theorem dep_sD (f : List (Nat × List Nat)) : dep (sD f) ≤ 60 := by
  have h : ∀ l : List Int, deps (l.map D.int) = 0 := by
    intro l
    induction l with
    | nil => rfl
    | cons x l ih => simp only [List.map_cons, deps, dep, ih, Nat.max_self]
  show deps _ + 1 ≤ 60
  rw [h]
  omega
theorem ne_bl (a b : Bool) : cmD .ne (.bl a) (.bl b) = some (a != b) := by cases a <;> cases b <;> rfl
theorem mul_nD (a b : Nat) (h : a ≤ 1000000) : opD .mul (nD a) (nD b) = some (nD (a * b)) := (opD_mul' (small_nat h)).trans (by simp [nD])
theorem ev_exp {V : EV.Env} {l : EV.Loc} {S : Sto} {sz t : Nat} {x y : D} (h7 : l[7]? = some (some (.d (nD sz)))) (h1 : l[1]? = some (some (.d (.tup [nD t, x, y])))) (hs : sz ≤ 1000000) :
    evE V (.op .mul (.var 7) (.op .add (.idx (.var 1) (.lit (.int 0))) (.lit (.int 1)))) l S = .ok (.d (nD (sz * (t + 1)))) S :=
  ev_op (ev_var h7) (ev_op (ev_ix0 (ev_var h1)) ev_lit (add1_nD t)) (mul_nD sz (t + 1) hs)
theorem ev_whole {n : Nat} {l : EV.Loc} {S : Sto} {sz t : Nat} {x y : D} (h7 : l[7]? = some (some (.d (nD sz)))) (h1 : l[1]? = some (some (.d (.tup [nD t, x, y])))) (hs : sz ≤ 41) (ht : t ≤ 1) :
    evE (UN (n + 1)) (.call 41 "_law_two" (.cons (.op .mul (.var 7) (.op .add (.idx (.var 1) (.lit (.int 0))) (.lit (.int 1)))) .nil)) l S = .ok (.d (nD (2 ^ (sz * (t + 1))))) S :=
  cn_call1 (ev_exp h7 h1 (by omega)) (c_two n (sz * (t + 1)) S (Nat.le_trans (Nat.mul_le_mul hs (Nat.succ_le_succ ht)) (by decide)))
theorem ev_par {V : EV.Env} {i j : Nat} {a b : LE} {l : EV.Loc} {S S1 S2 : Sto} {v w : Vl} (h1 : evE V a l S = .ok v S1) (h2 : evE V b l S1 = .ok w S2) : evS V (.par i j a b) l S = .nx ((l.set i (some v)).set j (some w)) S2 := by
  simp only [evS, h1, R.st_ok, h2]
/-! ### one machine -/
def L49 (t : Nat) (δ : Stp) (E : List Nat) (o2 o3 o4 o5 o6 o7 o10 o11 : Option Vl) : EV.Loc := [some (.ref 0), some (.d (mD t δ E)), o2, o3, o4, o5, o6, o7, some (.d (nD (2 * 2 ^ t))), some (.ref 1), o10, o11, none, none, none]
section
variable {n t : Nat} {δ : Stp} {E : List Nat}
theorem pow_sym {t k : Nat} : (2 * 2 ^ t) ^ k = 2 ^ (k * (t + 1)) := by
  rw [show 2 * 2 ^ t = 2 ^ (t + 1) from by rw [Nat.pow_succ, Nat.mul_comm], ← Nat.pow_mul, Nat.mul_comm]
theorem trn_count (h : Mch t δ E) (k : Nat) : fn δ (ind fun s => decide (s ∈ E)) k 0 + fn δ (ind fun s => decide (s ∈ trn δ E)) k 0 = 2 ^ (k * (t + 1)) := by
  rw [← pow_sym, ← fn_not h.ok (fun s => decide (s ∈ E)) k 0 h.ok.pos]
  congr 1
  refine fn_congr h.ok (fun s hs => ?_) k 0 h.ok.pos
  unfold ind
  have e : decide (s ∈ trn δ E) = !decide (s ∈ E) := by
    rw [Bool.eq_iff_iff, decide_eq_true_iff, trn_mem]
    simp [hs]
  simp only [e]
theorem eq_self_nD (a : Nat) : cmD .eq (nD a) (nD a) = some true := by
  show (if min (dep (nD a)) (dep (nD a)) ≤ 60 then some (eqD (nD a) (nD a)) else none) = _
  rw [if_pos (by simp [nD, dep]), eqD_refl]
theorem sub_nD {a b c : Nat} (h : a + b = c) : opD .sub (nD c) (nD a) = some (nD b) := by
  show some (D.int ((c : Int) - (a : Int))) = _
  rw [show (c : Int) - (a : Int) = (b : Int) from by omega]
  rfl
theorem c_one49 (n : Nat) (hm : Mch t δ E) (hl : δ.length ≤ 5) {hd : List D} (hH : Hd hd) : ∃ hd', Hd hd' ∧ CN (n + 10) 49 [.ref 0, .d (mD t δ E)] [.lst hd] = .ok (.d (.bl true)) [.lst hd'] := by
  have ht := hm.tr
  have hsy := hm.syms
  have hcl := come_len hm.ok
  have hF := come_ok hm.ok
  have hp2 : 0 < 2 ^ t := Nat.pow_pos (by decide)
  obtain ⟨d, hcome⟩ := c_come (n := n + 8) (t := t) (E := E) hm.ok (by omega) (by omega) [.lst hd]
  -- rows
  obtain ⟨k, hk1, hk2, hk3⟩ : ∃ k, k ≤ 6 ∧ (∀ i, i < k → (2 * 2 ^ t) ^ i ≤ 64) ∧ ∀ (l : EV.Loc) (S : Sto), l[8]? = some (some (.d (nD (2 * 2 ^ t)))) → evE (UN (n + 9)) (.ife (.cmp .eq (.var 8) (.lit (.int 2))) (.lit (.int 4)) (.lit (.int 2))) l S = .ok (.d (nD k)) S := by
    rcases (by omega : t = 0 ∨ t = 1) with e | e
    · subst e
      refine ⟨4, by omega, by decide, fun l S h => (ev_ife_t (ev_cmp (ev_var h) ev_lit rfl)).trans ev_lit⟩
    · subst e
      refine ⟨2, by omega, by decide, fun l S h => (ev_ife_f (ev_cmp (ev_var h) ev_lit rfl)).trans ev_lit⟩
  have hrows := c_rows (n + 8) (m := 2 * 2 ^ t) (k := k) hsy hk1 hk2
  have hrok := rf_ok (2 * 2 ^ t) k
  have hrl : (rf (2 * 2 ^ t) k).length ≤ 1000000 := by
    have q := rf_len (2 * 2 ^ t) 4096 k fun i hi => by
      have : (2 * 2 ^ t) ^ i ≤ 4 ^ 6 := Nat.le_trans (Nat.pow_le_pow_left hsy i) (Nat.pow_le_pow_right (by decide) (by omega))
      omega
    have : (k + 1) * 4096 ≤ 7 * 4096 := Nat.mul_le_mul_right _ (by omega)
    omega
  generalize hq : qD d (come δ) = q at hcome
  have hst : ∀ hd : List D, (stF [.lst hd] d (come δ) : Sto) = [.lst hd, .dic (fD (come δ)), .lst q] := fun hd => by unfold stF; rw [hq]; rfl
  rw [hst] at hcome
  have s0 : evS (UN (n + 9)) (.parN [8, 9] (.cons (.op .mul (.lit (.int 2)) (.call 41 "_law_two" (.cons (.idx (.var 1) (.lit (.int 0))) .nil))) (.cons (.call 46 "_law_come" (.cons (.var 1) .nil)) .nil))) [some (.ref 0), some (.d (mD t δ E)), none, none, none, none, none, none, none, none, none, none, none, none, none] [.lst hd] =
      .nx (L49 t δ E none none none none none none none none) [.lst hd, .dic (fD (come δ)), .lst q] := by
    have e1 := ev_op (V := UN (n + 9)) (o := .mul) (z := nD (2 * 2 ^ t)) (ev_lit (d := .int 2)) (cn_call1 (f := 41) (x := "_law_two") (ev_ix0 (x := nD t) (ds := [stD δ, rowD E]) (ev_var (i := 1) (l := [some (.ref 0), some (.d (mD t δ E)), none, none, none, none, none, none, none, none, none, none, none, none, none]) rfl)) (c_two (n + 8) t [.lst hd] (by omega))) ((opD_mul' (by decide)).trans (by simp [nD]))
    have e2 := cn_call1 (n := n + 9) (f := 46) (x := "_law_come") (ev_var (i := 1) (l := [some (.ref 0), some (.d (mD t δ E)), none, none, none, none, none, none, none, none, none, none, none, none, none]) rfl) hcome
    have e := evEs_cons e1 (evEs_cons e2 evEs_nil)
    simp only [evS, e, R.st_ok]
    rfl
  have s1 := ev_asgD (V := UN (n + 9)) (i := 2) (l := L49 t δ E none none none none none none none none) (S := [.lst hd, .dic (fD (come δ)), .lst q]) (cn_callN (f := 45) (x := "_law_rows") (evEs_cons (ev_var (i := 8) rfl) (evEs_cons (hk3 _ _ rfl) evEs_nil)) (hrows _))
  generalize hRW : (rf (2 * 2 ^ t) k) = RW at *
  have s2 : evE (UN (n + 9)) (.or (.cmp .isnot (.call 11 "is_machine" (.cons (.var 1) .nil)) (.lit (.bl true))) (.cmp .ne (.call 20 "reached" (.cons (.var 1) .nil)) (.bi .tup (.cons (.bi .sorted (.cons (.var 9) .nil)) .nil)))) (L49 t δ E (some (.d (.lst (RW.map rowD)))) none none none none none none none) [.lst hd, .dic (fD (come δ)), .lst q] = .ok (.d (.bl false)) [.lst hd, .dic (fD (come δ)), .lst q] :=
    ev_or_f (ev_cmp (cn_call1 (ev_var (i := 1) rfl) (c_machine (n + 3) _ hm)) ev_lit rfl) (ev_cmp (cn_call1 (ev_var (i := 1) rfl) (c_reached (n + 1) hm (by omega) _)) (ev_sorted (ev_var (i := 9) rfl) rfl (.inl rfl) (by omega)) (ne_self (dep_sD _)))
  -- a drawn row
  obtain ⟨w, hd2, hH2, hw, hwl, s3⟩ : ∃ (w : List Nat) (hd2 : List D), Hd hd2 ∧ (∀ a ∈ w, a < 2 * 2 ^ t) ∧ w.length < 12 ∧ evS (UN (n + 9)) (.asg (.nm 3) (.bi .tup (.cons x_law_is_one_right_5 .nil))) (L49 t δ E (some (.d (.lst (RW.map rowD)))) none none none none none none none) [.lst hd, .dic (fD (come δ)), .lst q] = .nx (L49 t δ E (some (.d (.lst (RW.map rowD)))) (some (.d (rowD w))) none none none none none none) [.lst hd2, .dic (fD (come δ)), .lst q] := by
    obtain ⟨k0, hd1, hk0, hH1, d1⟩ := c_draw (n + 8) (r := 0) (St := [.lst hd, .dic (fD (come δ)), .lst q]) (hd := hd) (many := 12) rfl hH (by omega) (by omega)
    obtain ⟨ys, S1, c1, c2, c3, hd3, hH3, rfl⟩ := ev_comp_inv (V := UN (n + 9)) (elt := x_law_is_one_right_5e) (t := .nm 13) (own := [13]) (l := L49 t δ E (some (.d (.lst (RW.map rowD)))) none none none none none none none) (S := [.lst hd1, .dic (fD (come δ)), .lst q]) (S0 := [.lst hd, .dic (fD (come δ)), .lst q]) (fun S' => ∃ hd3, Hd hd3 ∧ S' = [.lst hd3, .dic (fD (come δ)), .lst q]) (fun y => ∃ k, k < 2 * 2 ^ t ∧ y = nD k)
      (ev_rng1 (cn_callN (f := 39) (x := "_law_draw") (evEs_cons (ev_var (i := 0) rfl) (evEs_cons ev_lit evEs_nil)) d1) (wide_nat (by omega))) ⟨hd1, hH1, rfl⟩ (fun y hy S' hS => by
        obtain ⟨hd3, hH3, rfl⟩ := hS
        obtain ⟨k, hd4, q1, q2, q3⟩ := c_draw (n + 8) (r := 0) (St := [.lst hd3, .dic (fD (come δ)), .lst q]) (hd := hd3) (many := 2 * 2 ^ t) rfl hH3 (by omega) (by omega)
        exact ⟨_, _, _, rfl, cn_callN (evEs_cons (ev_var rfl) (evEs_cons (ev_var rfl) evEs_nil)) q3, ⟨hd4, q2, rfl⟩, k, q1, rfl⟩) (by rw [rng_len]; show k0 ≤ 16777216; omega)
    obtain ⟨w, rfl, hw⟩ := to_row ys c3
    rw [List.length_map, rng_len] at c2
    exact ⟨w, hd3, hH3, hw, by omega, ev_asgD (i := 3) (ev_bi1 (b := .tup) c1 rfl)⟩
  have s4 : evE (UN (n + 9)) (.or (.cmp .ne (.call 15 "state_after" (.cons (.var 1) (.cons (.var 3) .nil))) (.call 43 "_law_after" (.cons (.var 1) (.cons (.var 3) .nil)))) (.cmp .ne (.call 17 "takes" (.cons (.var 1) (.cons (.var 3) .nil))) (.call 44 "_law_takes" (.cons (.var 1) (.cons (.var 3) .nil))))) (L49 t δ E (some (.d (.lst (RW.map rowD)))) (some (.d (rowD w))) none none none none none none) [.lst hd2, .dic (fD (come δ)), .lst q] = .ok (.d (.bl false)) [.lst hd2, .dic (fD (come δ)), .lst q] := by
    have p := evEs_cons (V := UN (n + 9)) (ev_var (i := 1) (l := L49 t δ E (some (.d (.lst (RW.map rowD)))) (some (.d (rowD w))) none none none none none none) (S := [.lst hd2, .dic (fD (come δ)), .lst q]) rfl) (evEs_cons (ev_var (i := 3) rfl) evEs_nil)
    have e1 := ne_nD (aft δ 0 w) (aft δ 0 w)
    rw [decide_eq_true rfl] at e1
    have e2 := ne_bl (decide (aft δ 0 w ∈ E)) (decide (aft δ 0 w ∈ E))
    rw [bne_self_eq_false] at e2
    exact ev_or_f (ev_cmp (cn_callN p (c_state_after n _ hm (by omega) hw)) (cn_callN p (c_after43 (n + 8) _ hm.ok hw)) e1) (ev_cmp (cn_callN p (c_takes17 n _ hm (by omega) hw)) (cn_callN p (c_takes44 (n + 7) _ hm.ok hw)) e2)
  have s5 := ev_asgD (V := UN (n + 9)) (i := 4) (ev_som (V := UN (n + 9)) (i := 9) (j := 1) (k := 12) (own := [12]) (l := L49 t δ E (some (.d (.lst (RW.map rowD)))) (some (.d (rowD w))) none none none none none none) (S := [.lst hd2, .dic (fD (come δ)), .lst q]) (f := come δ) (t := t) (δ := δ) (E := E) rfl rfl (.inl rfl) rfl (fun y => ⟨rfl, rfl, rfl⟩) hF.nd (by omega))
  have hsm : (som (come δ) E).length ≤ 1000 := by
    unfold som
    rw [List.length_map]
    exact Nat.le_trans (List.length_filter_le _ _) (by omega)
  have hsr : ∀ r ∈ som (come δ) E, r.length ≤ 4 ∧ ∀ a ∈ r, a < 4 := fun r hr => by
    obtain ⟨p, hp, rfl⟩ := List.mem_map.mp hr
    have hp := (List.mem_filter.mp hp).1
    obtain ⟨i, hi⟩ := List.mem_iff_getElem?.mp hp
    have h1 := hF.len i p hi
    have h2 := (List.getElem?_eq_some_iff.mp hi).1
    exact ⟨by omega, fun a ha => by have := hF.sym p hp a ha; omega⟩
  obtain ⟨⟨rp, hrp⟩, hns⟩ := repr_lr hsr
  have s6 := ev_asgD (V := UN (n + 9)) (i := 5) (ev_lr (V := UN (n + 9)) (i := 4) (k := 14) (own := [14]) (l := L49 t δ E (some (.d (.lst (RW.map rowD)))) (some (.d (rowD w))) (some (.d (.lst ((som (come δ) E).map rowD)))) none none none none none) (S := [.lst hd2, .fzd (fD (come δ)), .lst q]) (L := som (come δ) E) rfl (fun y => rfl) hsm)
  generalize hD : lr (som (come δ) E) = due at *
  have s7 : evE (UN (n + 9)) (.or (.cmp .ne (.bi .repr (.cons (.call 22 "least_row" (.cons (.var 1) .nil)) .nil)) (.bi .repr (.cons (.var 5) .nil))) (.cmp .ne (.call 34 "takes_none" (.cons (.var 1) .nil)) (.cmp .is (.var 5) (.lit (.non))))) (L49 t δ E (some (.d (.lst (RW.map rowD)))) (some (.d (rowD w))) (some (.d (.lst ((som (come δ) E).map rowD)))) (some (.d due)) none none none none) [.lst hd2, .fzd (fD (come δ)), .lst q] = .ok (.d (.bl false)) [.lst hd2, .fzd (fD (come δ)), .lst q] := by
    have e1 := c_least22 (n + 1) hm (by omega) [.lst hd2, .fzd (fD (come δ)), .lst q]
    have e2 := c_none34 (n + 1) hm (by omega) [.lst hd2, .fzd (fD (come δ)), .lst q]
    rw [hD] at e1 e2
    have e3 := ne_bl (isNon due) (isNon due)
    rw [bne_self_eq_false] at e3
    exact ev_or_f (ev_cmp (ev_repr (cn_call1 (ev_var (i := 1) rfl) e1) hrp hns) (ev_repr (ev_var (i := 5) rfl) hrp hns) (ne_self (by simp [dep]))) (ev_cmp (cn_call1 (ev_var (i := 1) rfl) e2) (ev_cmp (ev_var (i := 5) rfl) ev_lit (is_non' due)) e3)
  have s8 : evE (UN (n + 9)) (.cmp .ne (.call 35 "takes_all" (.cons (.var 1) .nil)) (.bi .all (.cons x_law_is_one_right_2 .nil))) (L49 t δ E (some (.d (.lst (RW.map rowD)))) (some (.d (rowD w))) (some (.d (.lst ((som (come δ) E).map rowD)))) (some (.d due)) none none none none) [.lst hd2, .fzd (fD (come δ)), .lst q] = .ok (.d (.bl false)) [.lst hd2, .fzd (fD (come δ)), .lst q] := by
    have e1 : evE (UN (n + 9)) x_law_is_one_right_2 (L49 t δ E (some (.d (.lst (RW.map rowD)))) (some (.d (rowD w))) (some (.d (.lst ((som (come δ) E).map rowD)))) (some (.d due)) none none none none) [.lst hd2, .fzd (fD (come δ)), .lst q] = .ok (.d (.lst ((come δ).map fun p => .bl (decide (p.1 ∈ E))))) [.lst hd2, .fzd (fD (come δ)), .lst q] := by
      refine (ev_comp_map' (V := UN (n + 9)) (elt := x_law_is_one_right_2e) (t := .nm 12) (own := [12]) (fun y => .bl (inE E y)) (ev_walk (V := UN (n + 9)) (i := 9) (a := 1) (f := come δ) rfl rfl (.inr rfl)) (fun y hy => ?_) (by rw [List.length_map]; show (come δ).length ≤ 16777216; omega)).trans ?_
      · obtain ⟨p, hp, rfl⟩ := List.mem_map.mp hy
        exact ⟨_, rfl, ev_cmp (ev_var rfl) (ev_ix2 (ev_var rfl)) (isin_row _ _)⟩
      · rw [List.map_map]
        rfl
    have e2 := ev_bi1 (b := .all) e1 (bits_w (fun p : Nat × List Nat => decide (p.1 ∈ E)) (come δ))
    have e3 := ne_bl ((come δ).all fun p => decide (p.1 ∈ E)) ((come δ).all fun p => decide (p.1 ∈ E))
    rw [bne_self_eq_false] at e3
    exact ev_cmp (cn_call1 (ev_var (i := 1) rfl) (c_all35 (n + 1) hm _)) e2 e3
  have s9 := ev_asgD (V := UN (n + 9)) (i := 6) (l := L49 t δ E (some (.d (.lst (RW.map rowD)))) (some (.d (rowD w))) (some (.d (.lst ((som (come δ) E).map rowD)))) (some (.d due)) none none none none) (S := [.lst hd2, .fzd (fD (come δ)), .lst q]) (cn_call1 (f := 24) (x := "turned_machine") (ev_var (i := 1) rfl) (c_trn24 (n + 1) hm _))
  have s10 : evE (UN (n + 9)) (.not (.bi .all (.cons x_law_is_one_right_1 .nil))) (L49 t δ E (some (.d (.lst (RW.map rowD)))) (some (.d (rowD w))) (some (.d (.lst ((som (come δ) E).map rowD)))) (some (.d due)) (some (.d (mD t δ (trn δ E)))) none none none) [.lst hd2, .fzd (fD (come δ)), .lst q] = .ok (.d (.bl false)) [.lst hd2, .fzd (fD (come δ)), .lst q] := by
    have e1 : evE (UN (n + 9)) x_law_is_one_right_1 (L49 t δ E (some (.d (.lst (RW.map rowD)))) (some (.d (rowD w))) (some (.d (.lst ((som (come δ) E).map rowD)))) (some (.d due)) (some (.d (mD t δ (trn δ E)))) none none none) [.lst hd2, .fzd (fD (come δ)), .lst q] = .ok (.d (.lst ((RW.map rowD).map fun y => .bl true))) [.lst hd2, .fzd (fD (come δ)), .lst q] := by
      refine ev_comp_map (V := UN (n + 9)) (elt := x_law_is_one_right_1e) (t := .nm 14) (own := [14]) (fun y => .bl true) (ev_valL (ev_var (i := 2) rfl)) (fun y hy => ?_) (by rw [List.length_map]; show RW.length ≤ 16777216; omega)
      obtain ⟨r, hr, rfl⟩ := List.mem_map.mp hy
      obtain ⟨r1, r2⟩ := hrok r hr
      have hlt := hm.ok.aft_lt hm.ok.pos r2
      have e : decide (aft δ 0 r ∈ trn δ E) = !decide (aft δ 0 r ∈ E) := by
        rw [Bool.eq_iff_iff, decide_eq_true_iff, trn_mem]
        simp [hlt]
      have e3 := ne_bl (decide (aft δ 0 r ∈ trn δ E)) (decide (aft δ 0 r ∈ E))
      rw [e] at e3
      have e4 : ((!decide (aft δ 0 r ∈ E)) != decide (aft δ 0 r ∈ E)) = true := by cases decide (aft δ 0 r ∈ E) <;> rfl
      rw [e4, ← e] at e3
      exact ⟨_, rfl, ev_cmp (cn_callN (evEs_cons (ev_var (i := 6) rfl) (evEs_cons (ev_var (i := 14) rfl) evEs_nil)) (c_takes17 n _ hm.trn (by omega) r2)) (cn_callN (evEs_cons (ev_var (i := 1) rfl) (evEs_cons (ev_var (i := 14) rfl) evEs_nil)) (c_takes44 (n + 7) _ hm.ok r2)) e3⟩
    have e2 := ev_bi1 (b := .all) e1 (bits_w (fun _ : D => true) (RW.map rowD))
    have e3 : ((RW.map rowD).all fun _ => true) = true := by rw [List.all_eq_true]; exact fun _ _ => rfl
    rw [e3] at e2
    exact ev_not e2
  obtain ⟨sz, hd3, hsz, hH3, d3⟩ := c_draw (n + 8) (r := 0) (St := [.lst hd2, .fzd (fD (come δ)), .lst q]) (hd := hd2) (many := 41) rfl hH2 (by omega) (by omega)
  have s11 := ev_asgD (V := UN (n + 9)) (i := 7) (l := L49 t δ E (some (.d (.lst (RW.map rowD)))) (some (.d (rowD w))) (some (.d (.lst ((som (come δ) E).map rowD)))) (some (.d due)) (some (.d (mD t δ (trn δ E)))) none none none) (S := [.lst hd2, .fzd (fD (come δ)), .lst q]) (cn_callN (f := 39) (x := "_law_draw") (evEs_cons (ev_var (i := 0) rfl) (evEs_cons ev_lit evEs_nil)) d3)
  have hcnt := trn_count hm sz
  have s12 : evS (UN (n + 9)) (.par 10 11 (.call 48 "_law_many" (.cons (.var 1) (.cons (.var 7) .nil))) (.call 41 "_law_two" (.cons (.op .mul (.var 7) (.op .add (.idx (.var 1) (.lit (.int 0))) (.lit (.int 1)))) .nil))) (L49 t δ E (some (.d (.lst (RW.map rowD)))) (some (.d (rowD w))) (some (.d (.lst ((som (come δ) E).map rowD)))) (some (.d due)) (some (.d (mD t δ (trn δ E)))) (some (.d (nD sz))) none none) [.lst hd3, .fzd (fD (come δ)), .lst q] =
      .nx (L49 t δ E (some (.d (.lst (RW.map rowD)))) (some (.d (rowD w))) (some (.d (.lst ((som (come δ) E).map rowD)))) (some (.d due)) (some (.d (mD t δ (trn δ E)))) (some (.d (nD sz))) (some (.d (nD (fn δ (ind fun s => decide (s ∈ E)) sz 0)))) (some (.d (nD (2 ^ (sz * (t + 1))))))) [.lst hd3, .fzd (fD (come δ)), .lst q] := by
    exact (ev_par (cn_callN (n := n + 9) (f := 48) (x := "_law_many") (evEs_cons (ev_var (i := 1) rfl) (evEs_cons (ev_var (i := 7) rfl) evEs_nil)) (c_lawmany (n + 8) sz hm.ok (by omega) (by omega) _)) (ev_whole (n := n + 8) rfl rfl (by omega) ht)).trans rfl
  have s13 := ev_and_t (V := UN (n + 9)) (l := L49 t δ E (some (.d (.lst (RW.map rowD)))) (some (.d (rowD w))) (some (.d (.lst ((som (come δ) E).map rowD)))) (some (.d due)) (some (.d (mD t δ (trn δ E)))) (some (.d (nD sz))) (some (.d (nD (fn δ (ind fun s => decide (s ∈ E)) sz 0)))) (some (.d (nD (2 ^ (sz * (t + 1))))))) (S := [.lst hd3, .fzd (fD (come δ)), .lst q])
    (ev_cmp (o := .eq) (cn_callN (f := 37) (x := "rows_many") (evEs_cons (ev_var (i := 1) rfl) (evEs_cons (ev_var (i := 7) rfl) evEs_nil)) (c_many37 (n + 1) sz hm (by omega) _)) (ev_var (i := 10) rfl) (eq_self_nD _))
    (ev_cmp (o := .eq) (cn_callN (f := 37) (x := "rows_many") (evEs_cons (ev_var (i := 6) rfl) (evEs_cons (ev_var (i := 7) rfl) evEs_nil)) (c_many37 (n + 1) sz hm.trn (by omega) _)) (ev_op (o := .sub) (ev_var (i := 11) rfl) (ev_var (i := 10) rfl) (sub_nD hcnt)) (eq_self_nD _))
  refine ⟨hd3, hH3, ?_⟩
  rw [cn_at (F := d_law_is_one_right.fn) rfl]
  have hb : evSs (UN (n + 9)) d_law_is_one_right.fn.body [some (.ref 0), some (.d (mD t δ E)), none, none, none, none, none, none, none, none, none, none, none, none, none] [.lst hd] = .ret (.d (.bl true)) [.lst hd3, .fzd (fD (come δ)), .lst q] := by
    refine (evSs_cons s0).trans ?_
    refine (evSs_cons s1).trans ?_
    refine (evSs_cons ((ev_if_f s2).trans rfl)).trans ?_
    refine (evSs_cons s3).trans ?_
    refine (evSs_cons ((ev_if_f s4).trans rfl)).trans ?_
    refine (evSs_cons s5).trans ?_
    refine (evSs_cons s6).trans ?_
    refine (evSs_cons ((ev_if_f s7).trans rfl)).trans ?_
    refine (evSs_cons ((ev_if_f s8).trans rfl)).trans ?_
    refine (evSs_cons s9).trans ?_
    refine (evSs_cons ((ev_if_f s10).trans rfl)).trans ?_
    refine (evSs_cons s11).trans ?_
    refine (evSs_cons s12).trans ?_
    exact evSs_ret (ev_ret s13)
  have e0 : ([.ref 0, .d (mD t δ E)] : List Vl).map some ++ List.replicate (d_law_is_one_right.fn.nl - d_law_is_one_right.fn.np) none = [some (.ref 0), some (.d (mD t δ E)), none, none, none, none, none, none, none, none, none, none, none, none, none] := by
    simp [d_law_is_one_right]
  have hb2 : evSs (UN (n + 9)) d_law_is_one_right.fn.body (([.ref 0, .d (mD t δ E)] : List Vl).map some ++ List.replicate (d_law_is_one_right.fn.nl - d_law_is_one_right.fn.np) none) [.lst hd] = .ret (.d (.bl true)) [.lst hd3, .fzd (fD (come δ)), .lst q] := by
    rw [e0]
    exact hb
  have r := run_ret (F := d_law_is_one_right.fn) (vs := [.ref 0, .d (mD t δ E)]) (S := [.lst hd]) rfl hb2
  rw [r]
  rfl
end
end K04
end

section
set_option Elab.async false
set_option linter.all false
set_option maxRecDepth 100000
set_option maxHeartbeats 4000000
namespace K04
open PySem EV
section
variable {n t : Nat} {δ ε : Stp} {E F : List Nat}
theorem ev_ixL {V : EV.Env} {a : LE} {l : EV.Loc} {S S1 : Sto} {ds : List D} {k : Nat} {x : D} (h1 : evE V a l S = .ok (.d (.lst ds)) S1) (h3 : ds[k]? = some x) : evE V (.idx a (.lit (.int (k : Nat)))) l S = .ok (.d x) S1 := by
  have hl := (List.getElem?_eq_some_iff.mp h3).1
  simp only [evE, h1, R.bind_ok, idxV, dicOf, ditOf, peek, idxD, ixI_nat hl, Option.bind_some, h3, R.opt_some]
theorem ends_on {f : Bool → Bool → Bool} (hδ : OkS δ m) (hε : OkS ε m) {i : Nat} (hi : i < (rowsO δ ε).length) : decide (i ∈ endsP δ ε E F f) = onO δ ε (fun s t => f (decide (s ∈ E)) (decide (t ∈ F))) i := by
  have el : (rowsO δ ε).length = (ordO δ ε).length := by unfold rowsO; rw [List.length_map]
  rw [el] at hi
  have e := List.getElem?_eq_getElem hi
  rw [endsP_mem e]
  unfold onO
  rw [e]
theorem cnt_on {f : Bool → Bool → Bool} (hδ : OkS δ m) (hε : OkS ε m) (k : Nat) : fn (rowsO δ ε) (ind fun i => decide (i ∈ endsP δ ε E F f)) k 0 = fn (rowsO δ ε) (ind (onO δ ε fun s t => f (decide (s ∈ E)) (decide (t ∈ F)))) k 0 := by
  have hr := rows_ok hδ hε
  refine fn_congr hr (fun s hs => ?_) k 0 hr.pos
  unfold ind
  simp only [ends_on hδ hε hs]
theorem prod_takes {f : Bool → Bool → Bool} (h : Mch t δ E) (h2 : Mch t ε F) {w : List Nat} (hw : ∀ a ∈ w, a < 2 * 2 ^ t) : decide (aft (rowsO δ ε) 0 w ∈ endsP δ ε E F f) = f (decide (aft δ 0 w ∈ E)) (decide (aft ε 0 w ∈ F)) :=
  endsP_mem (prod_aft h.ok h2.ok (ord_zero h.ok h2.ok) hw)
def prD (t : Nat) (δ ε : Stp) (E F : List Nat) (f : Bool → Bool → Bool) : D := mD t (rowsO δ ε) (endsP δ ε E F f)
def evD (t : Nat) (δ ε : Stp) (E F : List Nat) : List D := [prD t δ ε E F (· && ·), prD t δ ε E F (· || ·), prD t δ ε E F (· != ·)]
def L50 (t : Nat) (δ ε : Stp) (E F : List Nat) (o4 o5 o6 o7 o8 o9 o10 : Option Vl) : EV.Loc := [some (.ref 0), some (.d (mD t δ E)), some (.d (mD t ε F)), some (.d (.lst (evD t δ ε E F))), o4, o5, o6, o7, o8, o9, o10, none]
theorem bits3 (a b : Bool) : cmD .ne (.lst [.bl (a && b), .bl (a || b), .bl (a != b)]) (.lst [.bl (a && b), .bl (a || b), .bl (a != b)]) = some false := by cases a <;> cases b <;> rfl
theorem ev_lst3 {V : EV.Env} {a b c : LE} {l : EV.Loc} {S S1 S2 S3 : Sto} {x y z : D} (h1 : evE V a l S = .ok (.d x) S1) (h2 : evE V b l S1 = .ok (.d y) S2) (h3 : evE V c l S2 = .ok (.d z) S3) : evE V (.lst (.cons a (.cons b (.cons c .nil)))) l S = .ok (.d (.lst [x, y, z])) S3 := ev_lstN (ds := [x, y, z]) (evEs_cons h1 (evEs_cons h2 (evEs_cons h3 evEs_nil)))
theorem ev_and' {V : EV.Env} {i j : Nat} {l : EV.Loc} {S : Sto} {a b : Bool} (h1 : l[i]? = some (some (.d (.bl a)))) (h2 : l[j]? = some (some (.d (.bl b)))) : evE V (.and (.var i) (.var j)) l S = .ok (.d (.bl (a && b))) S := by
  cases a with
  | true => exact ev_and_t (ev_var h1) (ev_var h2)
  | false => exact ev_and_f (ev_var h1)
theorem ev_or' {V : EV.Env} {i j : Nat} {l : EV.Loc} {S : Sto} {a b : Bool} (h1 : l[i]? = some (some (.d (.bl a)))) (h2 : l[j]? = some (some (.d (.bl b)))) : evE V (.or (.var i) (.var j)) l S = .ok (.d (.bl (a || b))) S := by
  cases a with
  | true => exact ev_or_t (ev_var h1)
  | false => exact ev_or_f (ev_var h1) (ev_var h2)
theorem all3 {P : D → Prop} (h1 : P (prD t δ ε E F (· && ·))) (h2 : P (prD t δ ε E F (· || ·))) (h3 : P (prD t δ ε E F (· != ·))) : ∀ x ∈ evD t δ ε E F, P x := fun x hx => by
  simp only [evD, List.mem_cons, List.not_mem_nil, or_false] at hx
  rcases hx with rfl | rfl | rfl
  · exact h1
  · exact h2
  · exact h3
/-- a comprehension over the three machines -/
theorem comp3 {V : EV.Env} {elt : LE} {l : EV.Loc} {S : Sto} {a b c : D} (hl : l[3]? = some (some (.d (.lst (evD t δ ε E F))))) (h1 : evE V elt ((wipeL l [11]).set 11 (some (.d (prD t δ ε E F (· && ·))))) S = .ok (.d a) S) (h2 : evE V elt ((wipeL l [11]).set 11 (some (.d (prD t δ ε E F (· || ·))))) S = .ok (.d b) S) (h3 : evE V elt ((wipeL l [11]).set 11 (some (.d (prD t δ ε E F (· != ·))))) S = .ok (.d c) S) :
    evE V (.comp elt (.val (.var 3)) (.nm 11) .no [11]) l S = .ok (.d (.lst [a, b, c])) S := by
  have hi := ev_valL (V := V) (ev_var (S := S) hl)
  have lp : (0 : Nat) < lim ∧ (1 : Nat) < lim ∧ (2 : Nat) < lim := by decide
  simp only [evE, hi, R.bind_ok, compR, evD, compGo, setT, evC, h1, h2, h3, take, List.nil_append, List.length_nil, List.length_cons, List.cons_append]
  simp [lp]
theorem rows_body (h : Mch t δ E) (h2 : Mch t ε F) (hl : δ.length ≤ 5) (hl2 : ε.length ≤ 4) {o4 o6 o7 o8 o9 o10 : Option Vl} {S : Sto} {w : List Nat} (hw : ∀ a ∈ w, a < 2 * 2 ^ t) :
    ∃ o9' o10', evSs (UN (n + 9)) f_law_are_two_right_3 (L50 t δ ε E F o4 (some (.d (rowD w))) o6 o7 o8 o9 o10) S = .nx (L50 t δ ε E F o4 (some (.d (rowD w))) o6 o7 o8 o9' o10') S := by
  have hr := rows_ok h.ok h2.ok
  have a1 : evS (UN (n + 9)) (.par 9 10 (.call 44 "_law_takes" (.cons (.var 1) (.cons (.var 5) .nil))) (.call 44 "_law_takes" (.cons (.var 2) (.cons (.var 5) .nil)))) (L50 t δ ε E F o4 (some (.d (rowD w))) o6 o7 o8 o9 o10) S = .nx (L50 t δ ε E F o4 (some (.d (rowD w))) o6 o7 o8 (some (.d (.bl (decide (aft δ 0 w ∈ E))))) (some (.d (.bl (decide (aft ε 0 w ∈ F)))))) S :=
    (ev_par (cn_callN (evEs_cons (ev_var (i := 1) rfl) (evEs_cons (ev_var (i := 5) rfl) evEs_nil)) (c_takes44 (n + 7) S h.ok hw)) (cn_callN (evEs_cons (ev_var (i := 2) rfl) (evEs_cons (ev_var (i := 5) rfl) evEs_nil)) (c_takes44 (n + 7) S h2.ok hw))).trans rfl
  have elt : ∀ f : Bool → Bool → Bool, evE (UN (n + 9)) x_law_are_two_right_2e ((wipeL (L50 t δ ε E F o4 (some (.d (rowD w))) o6 o7 o8 (some (.d (.bl (decide (aft δ 0 w ∈ E))))) (some (.d (.bl (decide (aft ε 0 w ∈ F)))))) [11]).set 11 (some (.d (prD t δ ε E F f)))) S = .ok (.d (.bl (f (decide (aft δ 0 w ∈ E)) (decide (aft ε 0 w ∈ F))))) S := fun f => by
    rw [← prod_takes (f := f) h h2 hw]
    exact cn_callN (evEs_cons (ev_var rfl) (evEs_cons (ev_var rfl) evEs_nil)) (c_takes44 (n + 7) S hr hw)
  have a2 := ev_cmp (o := .ne) (comp3 (V := UN (n + 9)) (elt := x_law_are_two_right_2e) (S := S) rfl (elt (· && ·)) (elt (· || ·)) (elt (· != ·))) (ev_lst3 (ev_and' (i := 9) (j := 10) (a := decide (aft δ 0 w ∈ E)) (b := decide (aft ε 0 w ∈ F)) rfl rfl) (ev_or' (i := 9) (j := 10) rfl rfl) (ev_cmp (ev_var (i := 9) rfl) (ev_var (i := 10) rfl) (ne_bl _ _))) (bits3 _ _)
  exact ⟨_, _, (evSs_cons a1).trans ((evSs_cons ((ev_if_f a2).trans rfl)).trans rfl)⟩
theorem c_two50 (n : Nat) (h : Mch t δ E) (h2 : Mch t ε F) (hl : δ.length ≤ 5) (hl2 : ε.length ≤ 4) {hd : List D} (hH : Hd hd) : ∃ hd', Hd hd' ∧ CN (n + 10) 50 [.ref 0, .d (mD t δ E), .d (mD t ε F)] [.lst hd] = .ok (.d (.bl true)) [.lst hd'] := by
  have ht := h.tr
  have hsy := h.syms
  have s0 := ev_asgD (V := UN (n + 9)) (i := 3) (l := [some (.ref 0), some (.d (mD t δ E)), some (.d (mD t ε F)), none, none, none, none, none, none, none, none, none]) (S := [.lst hd]) (ev_lst3
    (cn_callN (f := 31) (x := "both") (evEs_cons (ev_var (i := 1) rfl) (evEs_cons (ev_var (i := 2) rfl) evEs_nil)) (c_both n h h2 hl (by omega) _))
    (cn_callN (f := 32) (x := "either") (evEs_cons (ev_var (i := 1) rfl) (evEs_cons (ev_var (i := 2) rfl) evEs_nil)) (c_either n h h2 hl (by omega) _))
    (cn_callN (f := 33) (x := "just_one") (evEs_cons (ev_var (i := 1) rfl) (evEs_cons (ev_var (i := 2) rfl) evEs_nil)) (c_one n h h2 hl (by omega) _)))
  obtain ⟨k, hk1, hk2, hk3⟩ : ∃ k, k ≤ 6 ∧ (∀ i, i < k → (2 * 2 ^ t) ^ i ≤ 64) ∧ ∀ (l : EV.Loc) (S : Sto), l[1]? = some (some (.d (mD t δ E))) → evE (UN (n + 9)) (.ife (.cmp .eq (.idx (.var 1) (.lit (.int 0))) (.lit (.int 0))) (.lit (.int 6)) (.lit (.int 3))) l S = .ok (.d (nD k)) S := by
    rcases (by omega : t = 0 ∨ t = 1) with e | e
    · subst e
      exact ⟨6, by omega, by decide, fun l S h => (ev_ife_t (ev_cmp (ev_ix0 (x := nD 0) (ds := [stD δ, rowD E]) (ev_var h)) ev_lit rfl)).trans ev_lit⟩
    · subst e
      exact ⟨3, by omega, by decide, fun l S h => (ev_ife_f (ev_cmp (ev_ix0 (x := nD 1) (ds := [stD δ, rowD E]) (ev_var h)) ev_lit rfl)).trans ev_lit⟩
  have hrows := c_rows (n + 8) (m := 2 * 2 ^ t) (k := k) hsy hk1 hk2
  have hrok := rf_ok (2 * 2 ^ t) k
  generalize (rf (2 * 2 ^ t) k) = RW at *
  have s1 := ev_asgD (V := UN (n + 9)) (i := 4) (l := L50 t δ ε E F none none none none none none none) (S := [.lst hd]) (cn_callN (f := 45) (x := "_law_rows") (evEs_cons (ev_op (o := .mul) (z := nD (2 * 2 ^ t)) (ev_lit (d := .int 2)) (cn_call1 (f := 41) (x := "_law_two") (ev_ix0 (x := nD t) (ds := [stD δ, rowD E]) (ev_var (i := 1) rfl)) (c_two (n + 8) t [.lst hd] (by omega))) ((opD_mul' (by decide)).trans (by simp [nD]))) (evEs_cons (hk3 _ _ rfl) evEs_nil)) (hrows _))
  obtain ⟨l', S', s2, o5, o9, o10, rfl, rfl⟩ := forGo_inv (t := .nm 5) (b := evSs (UN (n + 9)) f_law_are_two_right_3) (fun j l S' => ∃ o5 o9 o10, l = L50 t δ ε E F (some (.d (.lst (RW.map rowD)))) o5 none none none o9 o10 ∧ [Cell.lst hd] = S') (xs := RW.map rowD) (k := 0) (l := L50 t δ ε E F (some (.d (.lst (RW.map rowD)))) none none none none none none) (S := [.lst hd]) ⟨none, none, none, rfl, rfl⟩ (fun i x l S' hx hI => by
    obtain ⟨o5, o9, o10, rfl, rfl⟩ := hI
    rw [List.getElem?_map, Option.map_eq_some_iff] at hx
    obtain ⟨w, hw, rfl⟩ := hx
    obtain ⟨o9', o10', hb⟩ := rows_body (n := n) (S := [.lst hd]) (o4 := some (.d (.lst (RW.map rowD)))) (o6 := none) (o7 := none) (o8 := none) (o9 := o9) (o10 := o10) h h2 hl hl2 (hrok w (List.mem_of_getElem? hw)).2
    exact ⟨_, _, _, rfl, hb, _, _, _, rfl, rfl⟩)
  obtain ⟨sz, hd3, hsz, hH3, d3⟩ := c_draw (n + 8) (r := 0) (St := [.lst hd]) (hd := hd) (many := 20) rfl hH (by omega) (by omega)
  have s3 := ev_asgD (V := UN (n + 9)) (i := 6) (l := L50 t δ ε E F (some (.d (.lst (RW.map rowD)))) o5 none none none o9 o10) (S := [.lst hd]) (cn_callN (f := 39) (x := "_law_draw") (evEs_cons (ev_var (i := 0) rfl) (evEs_cons ev_lit evEs_nil)) d3)
  have elt : ∀ f : Bool → Bool → Bool, evE (UN (n + 9)) x_law_are_two_right_1e ((wipeL (L50 t δ ε E F (some (.d (.lst (RW.map rowD)))) o5 (some (.d (nD sz))) none none o9 o10) [11]).set 11 (some (.d (prD t δ ε E F f)))) [.lst hd3] = .ok (.d (nD (fn (rowsO δ ε) (ind fun i => decide (i ∈ endsP δ ε E F f)) sz 0))) [.lst hd3] := fun f =>
    cn_callN (evEs_cons (ev_var rfl) (evEs_cons (ev_var rfl) evEs_nil)) (c_many37 (n + 1) sz (prod_mch h h2 hl hl2) (by omega) _)
  have s4 := ev_asgD (V := UN (n + 9)) (i := 7) (comp3 (V := UN (n + 9)) (elt := x_law_are_two_right_1e) (l := L50 t δ ε E F (some (.d (.lst (RW.map rowD)))) o5 (some (.d (nD sz))) none none o9 o10) (S := [.lst hd3]) rfl (elt (· && ·)) (elt (· || ·)) (elt (· != ·)))
  have hin := incl h.ok h2.ok (fun s => decide (s ∈ E)) (fun s => decide (s ∈ F)) sz 0 (0, 0) (ord_zero h.ok h2.ok)
  have hex := excl h.ok h2.ok (fun s => decide (s ∈ E)) (fun s => decide (s ∈ F)) sz 0 (0, 0) (ord_zero h.ok h2.ok)
  rw [← cnt_on (f := (· && ·)) h.ok h2.ok sz, ← cnt_on (f := (· || ·)) h.ok h2.ok sz] at hin
  rw [← cnt_on (f := (· && ·)) h.ok h2.ok sz, ← cnt_on (f := (· || ·)) h.ok h2.ok sz, ← cnt_on (f := (· != ·)) h.ok h2.ok sz] at hex
  generalize hA : fn (rowsO δ ε) (ind fun i => decide (i ∈ endsP δ ε E F (· && ·))) sz 0 = A at *
  generalize hB : fn (rowsO δ ε) (ind fun i => decide (i ∈ endsP δ ε E F (· || ·))) sz 0 = B at *
  generalize hC : fn (rowsO δ ε) (ind fun i => decide (i ∈ endsP δ ε E F (· != ·))) sz 0 = C at *
  have s5 := ev_asgD (V := UN (n + 9)) (i := 8) (l := L50 t δ ε E F (some (.d (.lst (RW.map rowD)))) o5 (some (.d (nD sz))) (some (.d (.lst [nD A, nD B, nD C]))) none o9 o10) (S := [.lst hd3]) (ev_op (o := .add)
    (cn_callN (f := 48) (x := "_law_many") (evEs_cons (ev_var (i := 1) rfl) (evEs_cons (ev_var (i := 6) rfl) evEs_nil)) (c_lawmany (n + 8) sz h.ok (by omega) (by omega) _))
    (cn_callN (f := 48) (x := "_law_many") (evEs_cons (ev_var (i := 2) rfl) (evEs_cons (ev_var (i := 6) rfl) evEs_nil)) (c_lawmany (n + 8) sz h2.ok (by omega) (by omega) _)) (add_nD _ _))
  rw [← hin] at s5
  have g0 : ∀ (o : Option Vl), evE (UN (n + 9)) (.idx (.var 7) (.lit (.int 0))) (L50 t δ ε E F (some (.d (.lst (RW.map rowD)))) o5 (some (.d (nD sz))) (some (.d (.lst [nD A, nD B, nD C]))) o o9 o10) [.lst hd3] = .ok (.d (nD A)) [.lst hd3] := fun o => ev_ixL (k := 0) (ev_var rfl) rfl
  have g1 : ∀ (o : Option Vl), evE (UN (n + 9)) (.idx (.var 7) (.lit (.int 1))) (L50 t δ ε E F (some (.d (.lst (RW.map rowD)))) o5 (some (.d (nD sz))) (some (.d (.lst [nD A, nD B, nD C]))) o o9 o10) [.lst hd3] = .ok (.d (nD B)) [.lst hd3] := fun o => ev_ixL (k := 1) (ev_var rfl) rfl
  have g2 : ∀ (o : Option Vl), evE (UN (n + 9)) (.idx (.var 7) (.lit (.int 2))) (L50 t δ ε E F (some (.d (.lst (RW.map rowD)))) o5 (some (.d (nD sz))) (some (.d (.lst [nD A, nD B, nD C]))) o o9 o10) [.lst hd3] = .ok (.d (nD C)) [.lst hd3] := fun o => ev_ixL (k := 2) (ev_var rfl) rfl
  have s6 := ev_and_t (V := UN (n + 9)) (l := L50 t δ ε E F (some (.d (.lst (RW.map rowD)))) o5 (some (.d (nD sz))) (some (.d (.lst [nD A, nD B, nD C]))) (some (.d (nD (A + B)))) o9 o10) (S := [.lst hd3])
    (ev_cmp (o := .eq) (ev_op (o := .add) (g0 _) (g1 _) (add_nD A B)) (ev_var (i := 8) rfl) (eq_self_nD _))
    (ev_cmp (o := .eq) (g2 _) (ev_op (o := .sub) (g1 _) (g0 _) (sub_nD (a := A) (b := C) (c := B) (by omega))) (eq_self_nD _))
  refine ⟨hd3, hH3, ?_⟩
  rw [cn_at (F := d_law_are_two_right.fn) rfl]
  have hb : evSs (UN (n + 9)) d_law_are_two_right.fn.body [some (.ref 0), some (.d (mD t δ E)), some (.d (mD t ε F)), none, none, none, none, none, none, none, none, none] [.lst hd] = .ret (.d (.bl true)) [.lst hd3] := by
    refine (evSs_cons s0).trans ?_
    refine (evSs_cons s1).trans ?_
    refine (evSs_cons ((ev_for (ev_valL (ev_var (i := 4) rfl))).trans s2)).trans ?_
    refine (evSs_cons s3).trans ?_
    refine (evSs_cons s4).trans ?_
    refine (evSs_cons s5).trans ?_
    exact evSs_ret (ev_ret s6)
  have e0 : ([.ref 0, .d (mD t δ E), .d (mD t ε F)] : List Vl).map some ++ List.replicate (d_law_are_two_right.fn.nl - d_law_are_two_right.fn.np) none = [some (.ref 0), some (.d (mD t δ E)), some (.d (mD t ε F)), none, none, none, none, none, none, none, none, none] := by
    simp [d_law_are_two_right]
  have hb2 : evSs (UN (n + 9)) d_law_are_two_right.fn.body (([.ref 0, .d (mD t δ E), .d (mD t ε F)] : List Vl).map some ++ List.replicate (d_law_are_two_right.fn.nl - d_law_are_two_right.fn.np) none) [.lst hd] = .ret (.d (.bl true)) [.lst hd3] := by
    rw [e0]
    exact hb
  have r := run_ret (F := d_law_are_two_right.fn) (vs := [.ref 0, .d (mD t δ E), .d (mD t ε F)]) (S := [.lst hd]) rfl hb2
  rw [r]
  rfl
/-! ### the law -/
theorem c_law (n : Nat) (ns : List Int) (hn : ns.length ≤ 63) : ∃ S', CN (n + 14) 52 [.scr (ns.map .int)] [] = .ok (.d (.bl true)) S' := by
  obtain ⟨hd0, hH0, d0⟩ := c_hand (n + 12) ns hn
  have a0 := ev_asgD (V := UN (n + 13)) (i := 1) (l := [some (.scr (ns.map .int)), none, none, none, none, none]) (S := []) (cn_call1 (f := 38) (x := "_law_hand") (ev_var (i := 0) rfl) d0)
  obtain ⟨l', S', h1, o2, o3, o4, o5, hd1, rfl, rfl, hH1⟩ := forGo_inv (t := .nm 2) (b := evSs (UN (n + 13)) f_law_1) (fun j l S' => ∃ o2 o3 o4 o5 hd, l = [some (.scr (ns.map .int)), some (.ref 0), o2, o3, o4, o5] ∧ S' = [Cell.lst hd] ∧ Hd hd) (xs := rangeD 0 (3 : Nat)) (k := 0) (l := [some (.scr (ns.map .int)), some (.ref 0), none, none, none, none]) (S := [.lst hd0]) ⟨none, none, none, none, hd0, rfl, rfl, hH0⟩ (fun i x l S' hx hI => by
    obtain ⟨o2, o3, o4, o5, hd, rfl, rfl, hH⟩ := hI
    obtain ⟨t, hd2, ht, hH2, d2⟩ := c_draw (n + 12) (r := 0) (St := [.lst hd]) (hd := hd) (many := 2) rfl hH (by omega) (by omega)
    obtain ⟨δ, E, hd3, hH3, m1, l1, d3⟩ := c_lmach (n + 11) (t := t) (most := 5) hH2 (by omega) (by omega) (by omega)
    obtain ⟨ε, F, hd4, hH4, m2, l2, d4⟩ := c_lmach (n + 11) (t := t) (most := 4) hH3 (by omega) (by omega) (by omega)
    obtain ⟨hd5, hH5, d5⟩ := c_one49 (n + 3) m1 l1 hH4
    obtain ⟨hd6, hH6, d6⟩ := c_two50 (n + 3) m1 m2 l1 l2 hH5
    obtain ⟨hd7, hH7, d7⟩ := c_refused n m1 hH6
    have b1 := ev_asgD (V := UN (n + 13)) (i := 3) (l := [some (.scr (ns.map .int)), some (.ref 0), some (.d x), o3, o4, o5]) (S := [.lst hd]) (cn_callN (f := 39) (x := "_law_draw") (evEs_cons (ev_var (i := 1) rfl) (evEs_cons ev_lit evEs_nil)) d2)
    have b2 : evS (UN (n + 13)) (.par 4 5 (.call 42 "_law_machine" (.cons (.var 1) (.cons (.var 3) (.cons (.lit (.int 5)) .nil)))) (.call 42 "_law_machine" (.cons (.var 1) (.cons (.var 3) (.cons (.lit (.int 4)) .nil))))) [some (.scr (ns.map .int)), some (.ref 0), some (.d x), some (.d (nD t)), o4, o5] [.lst hd2] = .nx [some (.scr (ns.map .int)), some (.ref 0), some (.d x), some (.d (nD t)), some (.d (mD t δ E)), some (.d (mD t ε F))] [.lst hd4] :=
      (ev_par (cn_callN (evEs_cons (ev_var (i := 1) rfl) (evEs_cons (ev_var (i := 3) rfl) (evEs_cons ev_lit evEs_nil))) d3) (cn_callN (evEs_cons (ev_var (i := 1) rfl) (evEs_cons (ev_var (i := 3) rfl) (evEs_cons ev_lit evEs_nil))) d4)).trans rfl
    have b3 : evE (UN (n + 13)) (.or (.not (.call 49 "_law_is_one_right" (.cons (.var 1) (.cons (.var 4) .nil)))) (.not (.call 50 "_law_are_two_right" (.cons (.var 1) (.cons (.var 4) (.cons (.var 5) .nil)))))) [some (.scr (ns.map .int)), some (.ref 0), some (.d x), some (.d (nD t)), some (.d (mD t δ E)), some (.d (mD t ε F))] [.lst hd4] = .ok (.d (.bl false)) [.lst hd6] :=
      ev_or_f (ev_not (cn_callN (evEs_cons (ev_var (i := 1) rfl) (evEs_cons (ev_var (i := 4) rfl) evEs_nil)) d5)) (ev_not (cn_callN (evEs_cons (ev_var (i := 1) rfl) (evEs_cons (ev_var (i := 4) rfl) (evEs_cons (ev_var (i := 5) rfl) evEs_nil))) d6))
    have b4 : evE (UN (n + 13)) (.not (.call 51 "_law_are_refused" (.cons (.var 1) (.cons (.var 4) .nil)))) [some (.scr (ns.map .int)), some (.ref 0), some (.d x), some (.d (nD t)), some (.d (mD t δ E)), some (.d (mD t ε F))] [.lst hd6] = .ok (.d (.bl false)) [.lst hd7] :=
      ev_not (cn_callN (evEs_cons (ev_var (i := 1) rfl) (evEs_cons (ev_var (i := 4) rfl) evEs_nil)) d7)
    exact ⟨_, _, _, rfl, (evSs_cons b1).trans ((evSs_cons b2).trans ((evSs_cons ((ev_if_g b3).trans rfl)).trans ((evSs_cons ((ev_if_g b4).trans rfl)).trans rfl))), _, _, _, _, _, rfl, rfl, hH7⟩)
  rw [cn_at (F := d_law.fn) rfl]
  exact ⟨_, run_ret (F := d_law.fn) rfl ((evSs_cons a0).trans ((evSs_cons ((ev_for (ev_rng1 ev_lit (by decide))).trans h1)).trans (evSs_ret (ev_ret ev_lit))))⟩
end
theorem plain : Plain 40 := ⟨100, fun ns h1 _ => c_law 27 ns h1⟩
end K04
open K04 in
theorem done : PySem.Challenge.rw_placesayings_k04_whole_machines_and_what.Holds := k04_end plain

end

theorem PySem.Challenge.cw_placesayings_k04_whole_machines_and_what_holds : PySem.Challenge.rw_placesayings_k04_whole_machines_and_what.Holds := by
  exact done
