import PyProof.Rows.All
import Wide.All
import OpenK.AllK
import Wide.FinOn
import PyProof.EqAt
import PyProof.EqKinds
import PyProof.NeData
import PyProof.TupleCall
import HandS.ForMost
import HandS.IsInst
import HandS.TupAny
import HandS.TupMul
import HandS.Style
import HandS.Flow
import HandS.Zip
import HandS.Walk
import HandS.Steps
import PyProof.Draws
import PyProof.EnumMake
import HandS.SortInts
import HandS.More
import HandS.DictComp
import HandS.SetKeys
import KE.KEqNest
import KE.GoesMore
import HandS.Zip0
import HandS.Finally
import PySem.Challenge.RW_kindworks_k13_whole_kinds_matched
set_option Elab.async false
set_option linter.all false
set_option autoImplicit false
set_option maxRecDepth 100000
/-! Rx: a small language of data and its interpreter. -/
namespace Rx

inductive Ky | i (n : Int) | s (x : String)
  deriving DecidableEq, Repr
/-- plain data; loc: a thing that may change, by its number in the store -/
inductive D where
  | non | bl (b : Bool) | int (i : Int) | str (s : String)
  | tup (xs : List D) | lst (xs : List D) | ro (xs : List D) | dct (ks : List Ky) (vs : List D)
  | loc (n : Nat)
  deriving Inhabited, Repr
inductive Cell where
  | lst (xs : List D) | dct (ks : List Ky) (vs : List D)
  deriving Inhabited, Repr
abbrev Store := List Cell
inductive Res (α : Type) where
  | ok (a : α) (st : Store) | no
  deriving Repr
def Res.bind {α β : Type} (r : Res α) (f : α → Store → Res β) : Res β := match r with
  | .ok a st => f a st
  | .no => .no
@[simp] theorem bnd_ok {α β : Type} {a : α} {st : Store} {f : α → Store → Res β} : (Res.ok a st).bind f = f a st := rfl
@[simp] theorem bnd_no {α β : Type} {f : α → Store → Res β} : (Res.no : Res α).bind f = .no := rfl
/-- an answer that may lack -/
def Res.of {α : Type} (o : Option α) (st : Store) : Res α := match o with
  | some a => .ok a st
  | none => .no

def LINE : Nat := 16777216

mutual
/-- how deep data is; what is not compared is beyond -/
def D.rk : D → Nat
  | .non | .bl _ | .int _ | .str _ => 0
  | .tup xs => D.rkAll xs + 1
  | .lst xs => D.rkAll xs + 1
  | .ro _ | .dct _ _ | .loc _ => 1000
def D.rkAll : List D → Nat
  | [] => 0
  | x :: xs => max (D.rk x) (D.rkAll xs)
end
mutual
/-- Python's == -/
def D.eq : D → D → Bool
  | .non, .non => true
  | .bl a, .bl b => a == b
  | .bl a, .int j => (if a then 1 else 0) == j
  | .int i, .bl b => i == (if b then 1 else 0)
  | .int i, .int j => i == j
  | .str x, .str y => x == y
  | .lst xs, .lst ys => D.eqAll xs ys
  | .tup xs, .tup ys => D.eqAll xs ys
  | _, _ => false
def D.eqAll : List D → List D → Bool
  | [], [] => true
  | x :: xs, y :: ys => D.eq x y && D.eqAll xs ys
  | _, _ => false
end

/-- the items of a list, whichever -/
def lstOf (st : Store) : D → Option (List D)
  | .lst xs => some xs
  | .loc n => match st[n]? with
    | some (.lst xs) => some xs
    | _ => none
  | _ => none
/-- .. of a list or a tuple, read -/
def seqOf (st : Store) : D → Option (List D)
  | .lst xs => some xs
  | .ro xs => some xs
  | .tup xs => some xs
  | .loc n => match st[n]? with
    | some (.lst xs) => some xs
    | _ => none
  | _ => none
/-- .. of a list, read -/
def lroOf (st : Store) : D → Option (List D)
  | .lst xs => some xs
  | .ro xs => some xs
  | .loc n => match st[n]? with
    | some (.lst xs) => some xs
    | _ => none
  | _ => none
def dctOf (st : Store) : D → Option (List Ky × List D)
  | .dct ks vs => some (ks, vs)
  | .loc n => match st[n]? with
    | some (.dct ks vs) => some (ks, vs)
    | _ => none
  | _ => none
/-- a list that may be compared as it stands -/
def flat1 (st : Store) (d : D) : D := match d with
  | .loc n => match st[n]? with
    | some (.lst xs) => .lst xs
    | _ => d
  | d => d
def newL (m : Bool) (xs : List D) (st : Store) : Res D := if m = true then .ok (.loc st.length) (st ++ [.lst xs]) else .ok (.lst xs) st
def newD (m : Bool) (ks : List Ky) (vs : List D) (st : Store) : Res D := if m = true then .ok (.loc st.length) (st ++ [.dct ks vs]) else .ok (.dct ks vs) st

/-! operators -/
inductive Bo | add | sub | mul | div | mod | pow | shl | shr | band | bor
  deriving DecidableEq, Repr
inductive Co | eq | ne | lt | le | gt | ge | isin | notin | is | isnot
  deriving DecidableEq, Repr
def bopI (o : Bo) (i j : Int) : Option Int := match o with
  | .add => some (i + j)
  | .sub => some (i - j)
  | .mul => if (-(2 ^ 64) < i ∧ i < 2 ^ 64) ∨ (-(2 ^ 64) < j ∧ j < 2 ^ 64) then some (i * j) else none
  | .div => if 0 < j ∧ j < 1073741824 then some (i / j) else none
  | .mod => if 0 < j then some (i % j) else none
  | .pow => if 0 ≤ j ∧ j ≤ 1000000 ∧ i.natAbs < 2 ^ 64 then some (i ^ j.toNat) else none
  | .shl => if 0 ≤ j ∧ j ≤ 1000000 ∧ i.natAbs < 2 ^ 64 then some (i * 2 ^ j.toNat) else none
  | .shr => if 0 ≤ j then some (i / 2 ^ j.toNat) else none
  | .band => none
  | .bor => none
def bop (o : Bo) (m : Bool) (a b : D) (st : Store) : Res D := match a, b with
  | .int i, .int j => .of ((bopI o i j).map D.int) st
  | .str s, .str t => match o with
    | .add => if s.length + t.length ≤ LINE then .ok (.str (s ++ t)) st else .no
    | _ => .no
  | .tup xs, .tup ys => match o with
    | .add => if xs.length + ys.length ≤ LINE then .ok (.tup (xs ++ ys)) st else .no
    | _ => .no
  | .tup xs, .int k => match o with
    | .mul => if xs ≠ [] ∧ -(2 ^ 63) ≤ k ∧ k ≤ 1000 ∧ xs.length ≤ 1000 then .ok (.tup (List.replicate k.toNat xs).flatten) st else .no
    | _ => .no
  | .str s, .int k => match o with
    | .mul => if -(2 ^ 63) ≤ k ∧ k ≤ 1000 ∧ s.length ≤ 1000 then .ok (.str (String.ofList (List.replicate k.toNat s.toList).flatten)) st else .no
    | _ => .no
  | a, .int k => match o, lstOf st a with
    | .mul, some xs => if xs.length * k.toNat ≤ LINE ∧ -(2 ^ 63) ≤ k ∧ k < 2 ^ 63 then newL m (List.replicate k.toNat xs).flatten st else .no
    | _, _ => .no
  | a, b => match o, lstOf st a, lstOf st b with
    | .add, some xs, some ys => if xs.length + ys.length ≤ LINE then newL m (xs ++ ys) st else .no
    | _, _, _ => .no

def cmpI (o : Co) (i j : Int) : Option Bool := match o with
  | .lt => some (decide (i < j))
  | .le => some (decide (i ≤ j))
  | .gt => some (decide (j < i))
  | .ge => some (decide (j ≤ i))
  | _ => none
def isNil : D → Bool
  | .tup [] | .lst [] => true
  | _ => false
/-- a thing that is itself compared by == without a look into a store -/
def cmpb : D → Bool
  | .ro _ | .dct _ _ | .loc _ => false
  | _ => true
/-- a thing that may be sought by == as it stands -/
def scal : D → Bool
  | .non | .bl _ | .int _ | .str _ => true
  | _ => false
def okEq (a b : D) : Bool := (scal a && cmpb b) || (scal b && cmpb a) || (isNil b && cmpb a) || (decide (a.rk ≤ 200) && decide (b.rk ≤ 200))
def isIn (x : D) (xs : List D) : Bool := xs.any fun y => D.eq y x
def lookK (ks : List Ky) (vs : List D) (k : Ky) : Option D := match ks, vs with
  | k' :: ks, v :: vs => if k' = k then some v else lookK ks vs k
  | _, _ => none
def kyOf : D → Option Ky
  | .int i => some (.i i)
  | .str s => some (.s s)
  | _ => none
def inB (a b : D) (st : Store) : Option Bool := match b with
  | .str t => match a with
    | .str s => match s.toList with
      | [c] => some (t.toList.contains c)
      | _ => none
    | _ => none
  | b => match seqOf st b with
    | some xs => if scal a && xs.all scal then some (isIn a xs) else none
    | none => match dctOf st b, kyOf a with
      | some (ks, vs), some k => some (lookK ks vs k).isSome
      | _, _ => none
def isB (a b : D) : Option Bool := match a, b with
  | .bl x, .bl y => some (x == y)
  | .non, .non => some true
  | _, .non => some false
  | _, _ => none
def ordB (o : Co) (a b : D) : Option Bool := match a, b with
  | .int i, .int j => cmpI o i j
  | _, _ => none
/-- what one dict holds, the other holds -/
def dctAll (ks : List Ky) (vs : List D) (ks' : List Ky) (vs' : List D) : Bool := match ks, vs with
  | k :: ks, v :: vs => (match lookK ks' vs' k with
    | some y => D.eq v y
    | none => false) && dctAll ks vs ks' vs'
  | _, _ => true
def dctEq (ks : List Ky) (vs : List D) (ks' : List Ky) (vs' : List D) : Bool := ks.length == ks'.length && dctAll ks vs ks' vs'
/-- == -/
def eqB (a b : D) (st : Store) : Option Bool := if okEq (flat1 st a) (flat1 st b) then some (D.eq (flat1 st a) (flat1 st b)) else
  match dctOf st a, dctOf st b with
  | some (ks, vs), some (ks', vs') => if D.rkAll vs ≤ 150 ∧ D.rkAll vs' ≤ 150 then some (dctEq ks vs ks' vs') else none
  | _, _ => none
def cmpV (o : Co) (a b : D) (st : Store) : Option Bool := match o with
  | .eq => eqB a b st
  | .ne => (eqB a b st).map (!·)
  | .isin => inB a b st
  | .notin => (inB a b st).map (!·)
  | .is => isB a b
  | .isnot => (isB a b).map (!·)
  | .lt => ordB .lt a b
  | .le => ordB .le a b
  | .gt => ordB .gt a b
  | .ge => ordB .ge a b
/-- a thing's truth -/
def truD (st : Store) : D → Option Bool
  | .non => some false
  | .bl b => some b
  | .int i => some (i != 0)
  | _ => none

/-! items and parts -/
def ixN (n : Nat) (i : Int) : Option Nat := if 0 ≤ i then (if i < n then some i.toNat else none) else if -(n : Int) ≤ i then some (i + n).toNat else none
def atI {α : Type} (xs : List α) (i : Int) : Option α := (ixN xs.length i).bind fun j => xs[j]?
def ixV (a i : D) (st : Store) : Option D := match a, i with
  | .str s, .int i => (atI s.toList i).bind fun c => if s.length ≤ LINE then some (.str (String.ofList [c])) else none
  | a, i => match seqOf st a with
    | some xs => match i with
      | .int i => atI xs i
      | _ => none
    | none => match dctOf st a, kyOf i with
      | some (ks, vs), some k => lookK ks vs k
      | _, _ => none
def sIx (n d : Nat) : Option Int → Nat
  | none => d
  | some v => if v < 0 then (v + (n : Int)).toNat else min v.toNat n
def cut {α : Type} (xs : List α) (lo hi : Option Int) : List α := (xs.drop (sIx xs.length 0 lo)).take (sIx xs.length xs.length hi - sIx xs.length 0 lo)
def sliV (m : Bool) (a : D) (lo hi : Option Int) (st : Store) : Res D := match a with
  | .tup xs => .ok (.tup (cut xs lo hi)) st
  | .str s => if s.length ≤ LINE then .ok (.str (String.ofList (cut s.toList lo hi))) st else .no
  | a => match lroOf st a with
    | some xs => newL m (cut xs lo hi) st
    | none => .no

/-! built-ins -/
inductive Ty | int | bool | str | tuple | list | dict
  deriving DecidableEq, Repr
def isTy (st : Store) (d : D) : Ty → Option Bool
  | .int => match d with
    | .int _ | .bl _ => some true
    | .loc n => (st[n]?).map fun _ => false
    | _ => some false
  | .bool => match d with
    | .bl _ => some true
    | .loc n => (st[n]?).map fun _ => false
    | _ => some false
  | .str => match d with
    | .str _ => some true
    | .loc n => (st[n]?).map fun _ => false
    | _ => some false
  | .tuple => match d with
    | .tup _ => some true
    | .loc n => (st[n]?).map fun _ => false
    | _ => some false
  | .list => match d with
    | .lst _ | .ro _ => some true
    | .loc n => match st[n]? with
      | some (.lst _) => some true
      | some (.dct _ _) => some false
      | none => none
    | _ => some false
  | .dict => match d with
    | .dct _ _ => some true
    | .loc n => match st[n]? with
      | some (.lst _) => some false
      | some (.dct _ _) => some true
      | none => none
    | _ => some false
inductive Bi | len | max | min | sum | all | any | int | tuple | list | sorted
  deriving DecidableEq, Repr
def intsD : List D → Option (List Int)
  | [] => some []
  | .int i :: r => (intsD r).map (i :: ·)
  | _ => none
def blsD : List D → Option (List Bool)
  | [] => some []
  | .bl i :: r => (blsD r).map (i :: ·)
  | _ => none
def strsD : List D → Option (List String)
  | [] => some []
  | .str i :: r => (strsD r).map (i :: ·)
  | _ => none
def kysI : List Ky → Option (List Int)
  | [] => some []
  | .i i :: r => (kysI r).map (i :: ·)
  | _ => none
def insI (x : Int) : List Int → List Int
  | [] => [x]
  | y :: r => if x ≤ y then x :: y :: r else y :: insI x r
def sortI : List Int → List Int
  | [] => []
  | x :: r => insI x (sortI r)
def biV (b : Bi) (m : Bool) (ds : List D) (st : Store) : Res D := match b, ds with
  | .len, [.str s] => if s.length ≤ LINE then .ok (.int s.length) st else .no
  | .len, [a] => match seqOf st a, dctOf st a with
    | some xs, _ => .ok (.int xs.length) st
    | none, some (ks, _) => .ok (.int ks.length) st
    | none, none => .no
  | .max, [.int i, .int j] => .ok (.int (if j > i then j else i)) st
  | .min, [.int i, .int j] => .ok (.int (if j < i then j else i)) st
  | .sum, [a] => .of (((lstOf st a).bind intsD).map fun l => .int l.sum) st
  | .all, [a] => .of (((lstOf st a).bind blsD).map fun l => .bl (l.all id)) st
  | .any, [a] => .of (((lstOf st a).bind blsD).map fun l => .bl (l.any id)) st
  | .int, [.int i] => .ok (.int i) st
  | .int, [.bl b] => .ok (.int (if b then 1 else 0)) st
  | .tuple, [.tup xs] => .ok (.tup xs) st
  | .tuple, [a] => .of ((lroOf st a).map D.tup) st
  | .list, [a] => match seqOf st a with
    | some xs => newL m xs st
    | none => .no
  | .sorted, [a] => match seqOf st a with
    | some xs => match intsD xs with
      | some l => newL m ((sortI l).map D.int) st
      | none => .no
    | none => match dctOf st a with
      | some (ks, _) => match kysI ks with
        | some l => if l.length < 64 then newL m ((sortI l).map D.int) st else .no
        | none => .no
      | none => .no
  | _, _ => .no

/-! methods -/
/-- the parts of a list ahead of and behind the first c -/
def cutAt (c : Char) : List Char → Option (List Char × List Char)
  | [] => none
  | x :: r => if x = c then some ([], r) else (cutAt c r).map fun p => (x :: p.1, p.2)
def splitC (c : Char) : List Char → List (List Char)
  | [] => [[]]
  | x :: r => if x = c then [] :: splitC c r else match splitC c r with
    | [] => [[x]]
    | p :: ps => (x :: p) :: ps
def joinS (sep : String) : List String → String
  | [] => ""
  | [x] => x
  | x :: r => x ++ sep ++ joinS sep r
def joinLen (n : Nat) (l : List String) : Nat := (l.map String.length).sum + l.length * n
inductive Me | join | partition | split | count | append | extend | get1 | get2 | setdef | clear
  deriving DecidableEq, Repr
def replD (ks : List Ky) (vs : List D) (k : Ky) (v : D) : List D := match ks, vs with
  | k' :: ks, v' :: vs => (if k' = k then v else v') :: replD ks vs k v
  | _, _ => []
/-- in its place, or at the end -/
def putD (ks : List Ky) (vs : List D) (k : Ky) (v : D) : List Ky × List D := if k ∈ ks then (ks, replD ks vs k v) else (ks ++ [k], vs ++ [v])
def meV (f : Me) (m : Bool) (o : D) (ds : List D) (st : Store) : Res D := match f, o, ds with
  | .join, .str s, [a] => match (seqOf st a).bind strsD with
    | some xs => if joinLen s.length xs ≤ LINE then .ok (.str (joinS s xs)) st else .no
    | none => .no
  | .partition, .str s, [.str t] => match t.toList with
    | [c] => if s.length ≤ LINE then (match cutAt c s.toList with
      | some (a, b) => .ok (.tup [.str (String.ofList a), .str t, .str (String.ofList b)]) st
      | none => .ok (.tup [.str s, .str "", .str ""]) st) else .no
    | _ => .no
  | .split, .str s, [.str t] => match t.toList with
    | [c] => if s.length + 2 ≤ LINE ∧ c.toNat < 256 then newL m ((splitC c s.toList).map fun l => .str (String.ofList l)) st else .no
    | _ => .no
  | .count, .str s, [.str t] => match t.toList with
    | [c] => .ok (.int (s.toList.count c)) st
    | _ => .no
  | .append, .loc n, [d] => match st[n]? with
    | some (.lst xs) => if xs.length < LINE then .ok .non (st.set n (.lst (xs ++ [d]))) else .no
    | _ => .no
  | .extend, .loc n, [a] => match st[n]?, lstOf st a with
    | some (.lst xs), some ys => if xs.length + ys.length ≤ LINE then .ok .non (st.set n (.lst (xs ++ ys))) else .no
    | _, _ => .no
  | .get2, a, [k, d] => match dctOf st a, kyOf k with
    | some (ks, vs), some k => .ok ((lookK ks vs k).getD d) st
    | _, _ => .no
  | .get1, a, [k] => match dctOf st a, kyOf k with
    | some (ks, vs), some k => .ok ((lookK ks vs k).getD .non) st
    | _, _ => .no
  | .setdef, .loc n, [k, d] => match st[n]?, kyOf k with
    | some (.dct ks vs), some k => if ks.length < LINE then (match lookK ks vs k with
      | some v => .ok v st
      | none => .ok d (st.set n (.dct (ks ++ [k]) (vs ++ [d])))) else .no
    | _, _ => .no
  | .clear, .loc n, [] => match st[n]? with
    | some (.dct _ _) => .ok .non (st.set n (.dct [] []))
    | _ => .no
  | _, _, _ => .no

/-- the receiver is of the method's class, whatever the arguments' evaluation did -/
def meIs (st : Store) : Me → D → Bool
  | .join, .str _ | .partition, .str _ | .split, .str _ | .count, .str _ => true
  | .append, .loc n | .extend, .loc n => match st[n]? with
    | some (.lst _) => true
    | _ => false
  | .get1, d | .get2, d => (dctOf st d).isSome
  | .setdef, .loc n | .clear, .loc n => match st[n]? with
    | some (.dct _ _) => true
    | _ => false
  | _, _ => false
/-! ### the codes -/
inductive Tg | nm (i : Nat) | tu (ts : List Nat)
  deriving DecidableEq, Repr
mutual
inductive E where
  | lit (d : D) | var (i : Nat) | glo (d : D)
  | bop (o : Bo) (m : Bool) (a b : E) | neg (a : E) | inot (a : E)
  | cmp (o : Co) (a b : E) | chn (o p : Co) (a b c : E)
  | ands (es : Es) | ors (es : Es) | tru (a : E) | ite (c a b : E)
  | tup (es : Es) | lst (m : Bool) (es : Es) | dct (m : Bool) (kvs : Es)
  | ix (a i : E) | sl (m : Bool) (a : E) (lo hi : Oe)
  | call (f : Nat) (es : Es) | bi (b : Bi) (m : Bool) (es : Es) | isi (a : E) (t : Ty)
  | me (f : Me) (m : Bool) (o : E) (es : Es)
  | lc (m : Bool) (elt : E) (t : Tg) (it : I) (c : Oe) (own : List Nat)
inductive Es where
  | nil | cons (e : E) (es : Es)
inductive Oe where
  | non | som (e : E)
inductive I where
  | it (e : E) | rng (a : E) | rng2 (a b : E) | enum (e : E) | zip (a b : E)
end
mutual
inductive S where
  | ret (e : E) | retN | expr (e : E) | pass
  | asg (t : Tg) (e : E) | put (o i e : E)
  | iff (c : E) (a b : Ss) | for_ (t : Tg) (it : I) (b : Ss)
inductive Ss where
  | nil | cons (s : S) (ss : Ss)
end

abbrev Slots := List (Option D)
abbrev CallF := Nat → List D → Store → Res D
/-- how a statement ends -/
inductive Fl where
  | nx (ρ : Slots) | rt (d : D)
  deriving Repr

/-- keys and values, one behind the other -/
def pairsD : List D → Option (List Ky × List D)
  | [] => some ([], [])
  | k :: v :: r => (kyOf k).bind fun k => (pairsD r).map fun p => (k :: p.1, v :: p.2)
  | _ => none
def setAll (ρ : Slots) : List Nat → List D → Option Slots
  | [], [] => some ρ
  | i :: is, d :: ds => setAll (ρ.set i (some d)) is ds
  | _, _ => none
def bindT (t : Tg) (d : D) (ρ : Slots) : Option Slots := match t with
  | .nm i => some (ρ.set i (some d))
  | .tu is => match d with
    | .tup ds => setAll ρ is ds
    | _ => none
def wipeD (ρ : Slots) : List Nat → Slots
  | [] => ρ
  | v :: vs => (wipeD ρ vs).set v none
/-- the items of what is walked; with it the place of a list that must not change on the way -/
structure Walked where
  xs : List D
  ats : List (Nat × List D)
mutual
def D.same : D → D → Bool
  | .non, .non => true
  | .bl a, .bl b => a == b
  | .int i, .int j => i == j
  | .str x, .str y => x == y
  | .tup xs, .tup ys => D.sameAll xs ys
  | .lst xs, .lst ys => D.sameAll xs ys
  | .ro xs, .ro ys => D.sameAll xs ys
  | .dct ks vs, .dct ks' vs' => decide (ks = ks') && D.sameAll vs vs'
  | .loc n, .loc m => n == m
  | _, _ => false
def D.sameAll : List D → List D → Bool
  | [], [] => true
  | x :: xs, y :: ys => D.same x y && D.sameAll xs ys
  | _, _ => false
end
def guardL (st : Store) : List (Nat × List D) → Bool
  | [] => true
  | p :: r => (match st[p.1]? with
    | some (.lst ys) => D.sameAll ys p.2
    | _ => false) && guardL st r
def guard (w : Walked) (st : Store) : Bool := guardL st w.ats
/-- a comprehension's turns: f gives none where the test fails -/
def lcL (g : Store → Bool) (f : D → Store → Res (Option D)) : List D → List D → Store → Res (List D)
  | [], acc, st => if g st = true then .ok acc st else .no
  | d :: r, acc, st => if g st = true then (f d st).bind fun o st => match o with
    | some y => if acc.length < LINE then lcL g f r (acc ++ [y]) st else .no
    | none => lcL g f r acc st
    else .no
def forL (g : Store → Bool) (f : D → Slots → Store → Res Fl) : List D → Slots → Store → Res Fl
  | [], ρ, st => if g st = true then .ok (.nx ρ) st else .no
  | d :: r, ρ, st => if g st = true then (f d ρ st).bind fun o st => match o with
    | .nx ρ => forL g f r ρ st
    | .rt v => .ok (.rt v) st
    else .no
/-- a list that is walked, whichever -/
def wlkL (d : D) (st : Store) : Option Walked := match d with
  | .lst xs => some ⟨xs, []⟩
  | .ro xs => some ⟨xs, []⟩
  | .loc n => match st[n]? with
    | some (.lst xs) => some ⟨xs, [(n, xs)]⟩
    | _ => none
  | _ => none
def itOf (d : D) (st : Store) : Option Walked := match d with
  | .tup xs => some ⟨xs, []⟩
  | .str s => some ⟨s.toList.map fun c => .str (String.ofList [c]), []⟩
  | d => wlkL d st
def enumL (k : Nat) : List D → List D
  | [] => []
  | d :: r => .tup [.int k, d] :: enumL (k + 1) r
def enumOf (d : D) (st : Store) : Option Walked := match d with
  | .tup xs => some ⟨enumL 0 xs, []⟩
  | d => (wlkL d st).map fun w => ⟨enumL 0 w.xs, w.ats⟩
def rng (i j : Int) : List D := (List.range (j - i).toNat).map fun (k : Nat) => D.int (i + (k : Int))
def zipL : List D → List D → List D
  | x :: xs, y :: ys => .tup [x, y] :: zipL xs ys
  | _, _ => []


def boolOf (d : D) (st : Store) : Res Bool := match d with
  | .bl b => .ok b st
  | _ => .no
mutual
def evE (C : CallF) (ρ : Slots) : E → Store → Res D
  | .lit d, st => .ok d st
  | .glo d, st => .ok d st
  | .var i, st => match ρ[i]? with
    | some (some d) => .ok d st
    | _ => .no
  | .bop o m a b, st => (evE C ρ a st).bind fun x st => (evE C ρ b st).bind fun y st => bop o m x y st
  | .neg a, st => (evE C ρ a st).bind fun x st => match x with
    | .int i => .ok (.int (-i)) st
    | _ => .no
  | .inot a, st => ((evE C ρ a st).bind boolOf).bind fun b st => .ok (.bl (!b)) st
  | .tru a, st => (evE C ρ a st).bind fun x st => .of ((truD st x).map D.bl) st
  | .cmp o a b, st => (evE C ρ a st).bind fun x st => (evE C ρ b st).bind fun y st => .of ((cmpV o x y st).map D.bl) st
  | .chn o p a b c, st => (evE C ρ a st).bind fun x st => (evE C ρ b st).bind fun y st => match cmpV o x y st with
    | some true => (evE C ρ c st).bind fun z st => .of ((cmpV p y z st).map D.bl) st
    | some false => .ok (.bl false) st
    | none => .no
  | .ands es, st => evAnd C ρ es st
  | .ors es, st => evOr C ρ es st
  | .ite c a b, st => ((evE C ρ c st).bind boolOf).bind fun t st => if t = true then evE C ρ a st else evE C ρ b st
  | .tup es, st => (evEs C ρ es st).bind fun ds st => if ds.length ≤ LINE then .ok (.tup ds) st else .no
  | .lst m es, st => (evEs C ρ es st).bind fun ds st => if ds.length ≤ LINE then newL m ds st else .no
  | .dct m es, st => (evEs C ρ es st).bind fun ds st => match pairsD ds with
    | some (ks, vs) => if ks.Nodup ∧ ks.length ≤ 15 then newD m ks vs st else .no
    | none => .no
  | .ix a i, st => (evE C ρ a st).bind fun x st => (evE C ρ i st).bind fun y st => .of (ixV x y st) st
  | .sl m a lo hi, st => (evE C ρ a st).bind fun x st => (evO C ρ lo st).bind fun l st => (evO C ρ hi st).bind fun h st => sliV m x l h st
  | .call f es, st => (evEs C ρ es st).bind fun ds st => C f ds st
  | .bi b m es, st => (evEs C ρ es st).bind fun ds st => biV b m ds st
  | .isi a t, st => (evE C ρ a st).bind fun x st => .of ((isTy st x t).map D.bl) st
  | .me f m o es, st => (evE C ρ o st).bind fun x st => if meIs st f x = true then (evEs C ρ es st).bind fun ds st => meV f m x ds st else .no
  | .lc m elt t it c own, st => (evI C ρ it st).bind fun w st => (lcL (guard w) (fun d st => match bindT t d (wipeD ρ own) with
      | none => .no
      | some ρ' => (evC C ρ' c st).bind fun b st => if b = true then (evE C ρ' elt st).bind fun y st => .ok (some y) st else .ok none st) w.xs [] st).bind fun ys st => newL m ys st
def evEs (C : CallF) (ρ : Slots) : Es → Store → Res (List D)
  | .nil, st => .ok [] st
  | .cons e es, st => (evE C ρ e st).bind fun d st => (evEs C ρ es st).bind fun ds st => .ok (d :: ds) st
/-- the value of a and b and .. -/
def evAnd (C : CallF) (ρ : Slots) : Es → Store → Res D
  | .nil, _ => .no
  | .cons e .nil, st => evE C ρ e st
  | .cons e es, st => ((evE C ρ e st).bind boolOf).bind fun b st => if b = true then evAnd C ρ es st else .ok (.bl false) st
def evOr (C : CallF) (ρ : Slots) : Es → Store → Res D
  | .nil, _ => .no
  | .cons e .nil, st => evE C ρ e st
  | .cons e es, st => ((evE C ρ e st).bind boolOf).bind fun b st => if b = true then .ok (.bl true) st else evOr C ρ es st
def evO (C : CallF) (ρ : Slots) : Oe → Store → Res (Option Int)
  | .non, st => .ok none st
  | .som e, st => (evE C ρ e st).bind fun d st => match d with
    | .int i => .ok (some i) st
    | _ => .no
/-- a comprehension's test -/
def evC (C : CallF) (ρ : Slots) : Oe → Store → Res Bool
  | .non, st => .ok true st
  | .som e, st => (evE C ρ e st).bind boolOf
def evI (C : CallF) (ρ : Slots) : I → Store → Res Walked
  | .it e, st => (evE C ρ e st).bind fun d st => .of (itOf d st) st
  | .rng a, st => (evE C ρ a st).bind fun d st => match d with
    | .int j => if -(2 ^ 62) ≤ j ∧ j < 2 ^ 62 then .ok ⟨rng 0 j, []⟩ st else .no
    | _ => .no
  | .rng2 a b, st => (evE C ρ a st).bind fun d st => (evE C ρ b st).bind fun f st => match d, f with
    | .int i, .int j => if (-(2 ^ 62) ≤ i ∧ i < 2 ^ 62) ∧ -(2 ^ 62) ≤ j ∧ j < 2 ^ 62 then .ok ⟨rng i j, []⟩ st else .no
    | _, _ => .no
  | .enum e, st => (evE C ρ e st).bind fun d st => .of (enumOf d st) st
  | .zip a b, st => (evE C ρ a st).bind fun d st => (evE C ρ b st).bind fun f st => match d, f with
    | .tup xs, .tup ys => .ok ⟨zipL xs ys, []⟩ st
    | d, f => .of ((wlkL d st).bind fun v => (wlkL f st).map fun w => ⟨zipL v.xs w.xs, v.ats ++ w.ats⟩) st
end
/-- o[i] = v -/
def putV (x y v : D) (st : Store) : Res Unit := match x with
  | .loc n => match st[n]? with
    | some (.lst xs) => match y with
      | .int k => match ixN xs.length k with
        | some j => .ok () (st.set n (.lst (xs.set j v)))
        | none => .no
      | _ => .no
    | some (.dct ks vs) => match kyOf y with
      | some k => if ks.length < LINE then .ok () (st.set n (.dct (putD ks vs k v).1 (putD ks vs k v).2)) else .no
      | none => .no
    | none => .no
  | _ => .no
mutual
def evS (C : CallF) : S → Slots → Store → Res Fl
  | .ret e, ρ, st => (evE C ρ e st).bind fun d st => .ok (.rt d) st
  | .retN, _, st => .ok (.rt .non) st
  | .expr e, ρ, st => (evE C ρ e st).bind fun _ st => .ok (.nx ρ) st
  | .pass, ρ, st => .ok (.nx ρ) st
  | .asg t e, ρ, st => (evE C ρ e st).bind fun d st => match bindT t d ρ with
    | some ρ => .ok (.nx ρ) st
    | none => .no
  | .put o i e, ρ, st => (evE C ρ e st).bind fun v st => (evE C ρ o st).bind fun x st => (evE C ρ i st).bind fun y st => (putV x y v st).bind fun _ st => .ok (.nx ρ) st
  | .iff c a b, ρ, st => ((evE C ρ c st).bind boolOf).bind fun t st => if t = true then evSs C a ρ st else evSs C b ρ st
  | .for_ t it b, ρ, st => (evI C ρ it st).bind fun w st => forL (guard w) (fun d ρ st => match bindT t d ρ with
    | none => .no
    | some ρ => evSs C b ρ st) w.xs ρ st
def evSs (C : CallF) : Ss → Slots → Store → Res Fl
  | .nil, ρ, st => .ok (.nx ρ) st
  | .cons s ss, ρ, st => (evS C s ρ st).bind fun f st => match f with
    | .nx ρ => evSs C ss ρ st
    | .rt d => .ok (.rt d) st
end
/-- a def: how many parameters, how many names, its body -/
structure Fn where
  np : Nat
  nn : Nat
  body : Ss
def startD (n : Nat) (ds : List D) : Slots := ds.map some ++ List.replicate (n - ds.length) none
def runB (C : CallF) (f : Fn) (ds : List D) (st : Store) : Res D := if ds.length = f.np then
    (evSs C f.body (startD f.nn ds) st).bind fun r st => match r with
    | .nx _ => .ok .non st
    | .rt d => .ok d st
  else .no
def callP (P : List Fn) : Nat → CallF
  | 0, _, _, _ => .no
  | k + 1, f, ds, st => match P[f]? with
    | some fn => runB (callP P k) fn ds st
    | none => .no
end Rx

set_option Elab.async false
set_option linter.all false
set_option maxRecDepth 100000
set_option maxHeartbeats 2000000
namespace Rx
open PySem L2

/-! ### what a value stands for -/
def kyK : Ky → Key
  | .i n => .inl n
  | .s x => .inr (Str.ofString x)
/-- the written part; what changes behind the interpreter's back -/
structure Bg where
  K : PySem.W.Frag
  hid : List Addr
def Out (B : Bg) (μ : List Addr) (a : Addr) : Prop := a ∉ μ ∧ a ∉ B.hid
section
variable (K : PySem.W.Frag) (B : Bg)
/-- a tuple at a, not one of the changing things | one of the written part -/
def TupS (a : Addr) (vs : List V) : Prop := ∃ (o : Obj) (its : Array Value) (n : Nat), K.lookup a = some o ∧ o.cls = .type "tuple" ∧ o.data = .seq its n ∧ its.size ≤ sizeLine ∧ Vals vs its.toList
def LstS (a : Addr) (vs : List V) : Prop := ∃ (o : Obj) (its : Array Value) (n : Nat), K.lookup a = some o ∧ o.cls = .type "list" ∧ o.dict = none ∧ o.data = .seq its n ∧ its.size ≤ sizeLine ∧ Vals vs its.toList
mutual
def Rep (H : Hp) (μ : List Addr) : D → V → Prop
  | .non, v => v = .non
  | .bl b, v => v = .bl b
  | .int i, v => v = .int i
  | .str s, v => v = .str (Str.ofString s)
  | .tup ds, v => ∃ a vs, v = .ref a ∧ ((Out B μ a ∧ Rd H a (.tup vs)) ∨ TupS B.K a vs) ∧ Reps H μ ds vs
  | .lst ds, v => ∃ a vs, v = .ref a ∧ (Out B μ a ∧ H a = some (.lst vs)) ∧ Reps H μ ds vs
  | .ro ds, v => ∃ a vs, v = .ref a ∧ ((Out B μ a ∧ Rd H a (.lst vs)) ∨ LstS B.K a vs) ∧ Reps H μ ds vs
  | .dct ks ds, v => ∃ a kvs, v = .ref a ∧ (Out B μ a ∧ H a = some (.dK kvs)) ∧ kvs.map Prod.fst = ks.map kyK ∧ Reps H μ ds (kvs.map Prod.snd)
  | .loc n, v => ∃ a, v = .ref a ∧ μ[n]? = some a
def Reps (H : Hp) (μ : List Addr) : List D → List V → Prop
  | [], vs => vs = []
  | d :: ds, vs => ∃ v r, vs = v :: r ∧ Rep H μ d v ∧ Reps H μ ds r
end
def CellOk (H : Hp) (μ : List Addr) (a : Addr) : Cell → Prop
  | .lst ds => ∃ vs, H a = some (.lst vs) ∧ Reps B H μ ds vs
  | .dct ks ds => ∃ kvs, H a = some (.dK kvs) ∧ kvs.map Prod.fst = ks.map kyK ∧ Reps B H μ ds (kvs.map Prod.snd)
structure StOk (H : Hp) (μ : List Addr) (st : Store) : Prop where
  len : μ.length = st.length
  nd : μ.Nodup
  hid : ∀ a ∈ B.hid, ∃ o, H a = some o
  cell : ∀ (n : Nat) (a : Addr) (c : Cell), μ[n]? = some a → st[n]? = some c → CellOk B H μ a c
end
/-- behind it: nothing but what may change was changed, what is new there was not known -/
structure Later (H : Hp) (μ : List Addr) (H' : Hp) (μ' : List Addr) : Prop where
  keep : ∀ a o, a ∉ μ → H a = some o → H' a = some o
  live : ∀ a o, H a = some o → ∃ o', H' a = some o'
  more : ∃ r, μ' = μ ++ r ∧ ∀ a ∈ r, H a = none
section
variable {H H' H1 H2 : Hp} {μ μ' μ1 μ2 : List Addr}
theorem Later.refl : Later H μ H μ := ⟨fun _ _ _ h => h, fun _ o h => ⟨o, h⟩, [], by simp, by simp⟩
theorem Later.out (L : Later H μ H' μ') {a : Addr} {o : HO} (h : a ∉ μ) (e : H a = some o) : a ∉ μ' := by
  obtain ⟨r, rfl, hr⟩ := L.more
  intro hm
  rcases List.mem_append.mp hm with z | z
  · exact h z
  · rw [hr a z] at e; cases e
theorem Later.at (L : Later H μ H' μ') {n : Nat} {a : Addr} (h : μ[n]? = some a) : μ'[n]? = some a := by
  obtain ⟨r, rfl, _⟩ := L.more
  rw [List.getElem?_append_left (List.getElem?_eq_some_iff.mp h).1]
  exact h
theorem Later.trans (x : Later H μ H1 μ1) (y : Later H1 μ1 H2 μ2) : Later H μ H2 μ2 := by
  refine ⟨fun a o h e => y.keep a o (x.out h e) (x.keep a o h e), fun a o e => ?_, ?_⟩
  · obtain ⟨o', e'⟩ := x.live a o e
    exact y.live a o' e'
  · obtain ⟨r, e1, h1⟩ := x.more
    obtain ⟨q, e2, h2⟩ := y.more
    refine ⟨r ++ q, by rw [e2, e1, List.append_assoc], fun a ha => ?_⟩
    rcases List.mem_append.mp ha with z | z
    · exact h1 a z
    · cases e : H a with
      | none => rfl
      | some o =>
        obtain ⟨o', e'⟩ := x.live a o e
        rw [h2 a z] at e'; cases e'
theorem Later.rd (L : Later H μ H' μ') {a : Addr} {u : HO} (h : a ∉ μ) (e : Rd H a u) : Rd H' a u := by
  rcases e with e | ⟨o, e⟩
  · exact .inl (L.keep a _ h e)
  · exact .inr ⟨o, L.keep a _ h e⟩
theorem Later.rdo (L : Later H μ H' μ') {a : Addr} {u : HO} (h : a ∉ μ) (e : Rd H a u) : a ∉ μ' := by
  rcases e with e | ⟨o, e⟩
  · exact L.out h e
  · exact L.out h e
/-- a new thing beside -/
theorem Later.new {p : Addr} {o : HO} (h : H p = none) : Later H μ (upd H p o) μ := by
  refine ⟨fun a u _ e => ?_, fun a u e => ⟨u, ?_⟩, [], by simp, by simp⟩ <;> (rw [upd_ne (ne_of_none e h)]; exact e)
/-- a new changing thing -/
theorem Later.newM {p : Addr} {o : HO} (h : H p = none) : Later H μ (upd H p o) (μ ++ [p]) := by
  refine ⟨fun a u _ e => ?_, fun a u e => ⟨u, ?_⟩, [p], rfl, fun a ha => ?_⟩
  · rw [upd_ne (ne_of_none e h)]; exact e
  · rw [upd_ne (ne_of_none e h)]; exact e
  · rw [List.mem_singleton.mp ha]; exact h
/-- a changing thing is changed -/
theorem Later.upd {a : Addr} {o : HO} (h : a ∈ μ) : Later H μ (L2.upd H a o) μ := by
  refine ⟨fun b u hb e => ?_, fun b u e => ?_, [], by simp, by simp⟩
  · rw [upd_ne (fun z : b = a => hb (by rw [z]; exact h))]; exact e
  · by_cases z : b = a
    · subst z; exact ⟨o, upd_same⟩
    · exact ⟨u, by rw [upd_ne z]; exact e⟩
variable {B : Bg}
/-- from one state to another one -/
structure Tran (B : Bg) (H : Hp) (μ : List Addr) (B' : Bg) (H' : Hp) (μ' : List Addr) : Prop where
  k : B'.K = B.K
  o : ∀ a o, Out B μ a → H a = some o → Out B' μ' a ∧ H' a = some o
  m : ∀ (n : Nat) a, μ[n]? = some a → μ'[n]? = some a
theorem Tran.rd {B B' : Bg} (t : Tran B H μ B' H' μ') {a : Addr} {u : HO} (h : Out B μ a) (e : Rd H a u) : Out B' μ' a ∧ Rd H' a u := by
  rcases e with e | ⟨o, e⟩
  · exact ⟨(t.o a _ h e).1, .inl (t.o a _ h e).2⟩
  · exact ⟨(t.o a _ h e).1, .inr ⟨o, (t.o a _ h e).2⟩⟩
variable {B' : Bg}
mutual
theorem Rep.tran (t : Tran B H μ B' H' μ') : ∀ (d : D) (v : V), Rep B H μ d v → Rep B' H' μ' d v
  | .non, _, h => h
  | .bl _, _, h => h
  | .int _, _, h => h
  | .str _, _, h => h
  | .tup ds, _, h => by
    obtain ⟨a, vs, e, q, r⟩ := h
    refine ⟨a, vs, e, ?_, Reps.tran t ds vs r⟩
    rcases q with ⟨h1, h2⟩ | q
    · exact .inl (t.rd h1 h2)
    · exact .inr (t.k ▸ q)
  | .lst ds, _, h => by
    obtain ⟨a, vs, e, ⟨h1, h2⟩, r⟩ := h
    exact ⟨a, vs, e, t.o a _ h1 h2, Reps.tran t ds vs r⟩
  | .ro ds, _, h => by
    obtain ⟨a, vs, e, q, r⟩ := h
    refine ⟨a, vs, e, ?_, Reps.tran t ds vs r⟩
    rcases q with ⟨h1, h2⟩ | q
    · exact .inl (t.rd h1 h2)
    · exact .inr (t.k ▸ q)
  | .dct ks ds, _, h => by
    obtain ⟨a, kvs, e, ⟨h1, h2⟩, hk, r⟩ := h
    exact ⟨a, kvs, e, t.o a _ h1 h2, hk, Reps.tran t ds _ r⟩
  | .loc n, _, h => by
    obtain ⟨a, e, h⟩ := h
    exact ⟨a, e, t.m n a h⟩
theorem Reps.tran (t : Tran B H μ B' H' μ') : ∀ (ds : List D) (vs : List V), Reps B H μ ds vs → Reps B' H' μ' ds vs
  | [], _, h => h
  | d :: ds, _, h => by
    obtain ⟨v, r, e, h1, h2⟩ := h
    exact ⟨v, r, e, Rep.tran t d v h1, Reps.tran t ds r h2⟩
end
theorem Later.tr (L : Later H μ H' μ') : Tran B H μ B H' μ' := ⟨rfl, fun a o h e => ⟨⟨L.out h.1 e, h.2⟩, L.keep a o h.1 e⟩, fun n a h => L.at h⟩
theorem Rep.mono (L : Later H μ H' μ') (d : D) (v : V) (h : Rep B H μ d v) : Rep B H' μ' d v := Rep.tran L.tr d v h
theorem Reps.mono (L : Later H μ H' μ') (d : List D) (v : List V) (h : Reps B H μ d v) : Reps B H' μ' d v := Reps.tran L.tr d v h
theorem CellOk.tran (t : Tran B H μ B' H' μ') {a : Addr} {c : Cell} (hs : ∀ o, H a = some o → H' a = some o) (h : CellOk B H μ a c) : CellOk B' H' μ' a c := by
  cases c with
  | lst ds =>
    obtain ⟨vs, e, r⟩ := h
    exact ⟨vs, hs _ e, Reps.tran t _ _ r⟩
  | dct ks ds =>
    obtain ⟨kvs, e, hk, r⟩ := h
    exact ⟨kvs, hs _ e, hk, Reps.tran t _ _ r⟩
/-- one more thing is hidden, which was not known -/
def Bg.hide (B : Bg) (p : Addr) : Bg := ⟨B.K, p :: B.hid⟩
theorem tr_hide {p : Addr} {o : HO} (hp : H p = none) : Tran B H μ (B.hide p) (L2.upd H p o) μ := ⟨rfl, fun a u h e => by
  refine ⟨⟨h.1, fun hm => ?_⟩, by rw [upd_ne (ne_of_none e hp)]; exact e⟩
  rcases List.mem_cons.mp hm with z | z
  · rw [z, hp] at e; cases e
  · exact h.2 z, fun _ _ h => h⟩
theorem tr_bare {p : Addr} : Tran (B.hide p) H μ B H μ := ⟨rfl, fun a o h e => ⟨⟨h.1, fun hm => h.2 (List.mem_cons_of_mem _ hm)⟩, e⟩, fun _ _ h => h⟩
/-- what is hidden is changed -/
theorem tr_upd {p : Addr} {o : HO} (h : p ∈ B.hid) : Tran B H μ B (L2.upd H p o) μ := ⟨rfl, fun a u ha e => ⟨ha, by rw [upd_ne (fun z : a = p => ha.2 (by rw [z]; exact h))]; exact e⟩, fun _ _ h => h⟩
theorem Reps.length : ∀ {ds : List D} {vs : List V}, Reps B H μ ds vs → vs.length = ds.length
  | [], _, h => by cases h; rfl
  | d :: ds, _, h => by
    obtain ⟨v, r, rfl, _, h2⟩ := h
    rw [List.length_cons, List.length_cons, Reps.length h2]
theorem Reps.get : ∀ {ds : List D} {vs : List V} {i : Nat} {d : D}, Reps B H μ ds vs → ds[i]? = some d → ∃ v, vs[i]? = some v ∧ Rep B H μ d v
  | [], _, _, _, _, e => by simp at e
  | d :: ds, _, 0, _, h, e => by
    obtain ⟨v, r, rfl, h1, _⟩ := h
    simp at e; subst e
    exact ⟨v, rfl, h1⟩
  | d :: ds, _, i + 1, x, h, e => by
    obtain ⟨v, r, rfl, _, h2⟩ := h
    obtain ⟨w, h3, h4⟩ := Reps.get (i := i) (d := x) h2 (by simpa using e)
    exact ⟨w, by simpa using h3, h4⟩
theorem Reps.app : ∀ {ds es : List D} {vs ws : List V}, Reps B H μ ds vs → Reps B H μ es ws → Reps B H μ (ds ++ es) (vs ++ ws)
  | [], _, _, _, h, k => by cases h; exact k
  | d :: ds, _, _, _, h, k => by
    obtain ⟨v, r, rfl, h1, h2⟩ := h
    exact ⟨v, _, rfl, h1, Reps.app h2 k⟩
theorem Reps.drop : ∀ {ds : List D} {vs : List V} (n : Nat), Reps B H μ ds vs → Reps B H μ (ds.drop n) (vs.drop n)
  | _, _, 0, h => h
  | [], _, n + 1, h => by cases h; exact rfl
  | d :: ds, _, n + 1, h => by
    obtain ⟨v, r, rfl, _, h2⟩ := h
    exact Reps.drop n h2
theorem Reps.take : ∀ {ds : List D} {vs : List V} (n : Nat), Reps B H μ ds vs → Reps B H μ (ds.take n) (vs.take n)
  | _, _, 0, _ => rfl
  | [], _, n + 1, h => by cases h; exact rfl
  | d :: ds, _, n + 1, h => by
    obtain ⟨v, r, rfl, h1, h2⟩ := h
    exact ⟨v, _, rfl, h1, Reps.take n h2⟩
theorem Reps.set : ∀ {ds : List D} {vs : List V} (n : Nat) {d : D} {v : V}, Reps B H μ ds vs → Rep B H μ d v → Reps B H μ (ds.set n d) (vs.set n v)
  | [], _, _, _, _, h, _ => by cases h; exact rfl
  | d :: ds, _, 0, _, _, h, k => by
    obtain ⟨v, r, rfl, h1, h2⟩ := h
    exact ⟨_, _, rfl, k, h2⟩
  | d :: ds, _, n + 1, _, _, h, k => by
    obtain ⟨v, r, rfl, h1, h2⟩ := h
    exact ⟨_, _, rfl, h1, Reps.set n h2 k⟩
theorem Reps.flat {ds : List D} {vs : List V} (h : Reps B H μ ds vs) : ∀ k : Nat, Reps B H μ (List.replicate k ds).flatten (List.replicate k vs).flatten
  | 0 => rfl
  | k + 1 => by
    rw [List.replicate_succ, List.replicate_succ, List.flatten_cons, List.flatten_cons]
    exact Reps.app h (Reps.flat h k)
theorem Reps.mapI : ∀ {is : List Int} {vs : List V}, Reps B H μ (is.map D.int) vs → vs = is.map V.int
  | [], _, h => by cases h; rfl
  | i :: is, _, h => by
    obtain ⟨v, r, rfl, h1, h2⟩ := h
    rw [List.map_cons, ← Reps.mapI h2]
    congr
theorem CellOk.mono (L : Later H μ H' μ') {a : Addr} {c : Cell} (hs : ∀ o, H a = some o → H' a = some o) (h : CellOk B H μ a c) : CellOk B H' μ' a c := by
  cases c with
  | lst ds =>
    obtain ⟨vs, e, r⟩ := h
    exact ⟨vs, hs _ e, Reps.mono L _ _ r⟩
  | dct ks ds =>
    obtain ⟨kvs, e, hk, r⟩ := h
    exact ⟨kvs, hs _ e, hk, Reps.mono L _ _ r⟩
theorem CellOk.there {a : Addr} {c : Cell} (h : CellOk B H μ a c) : ∃ o, H a = some o := by
  cases c with
  | lst ds => obtain ⟨vs, e, r⟩ := h; exact ⟨_, e⟩
  | dct ks ds => obtain ⟨kvs, e, _⟩ := h; exact ⟨_, e⟩
variable {st : Store}
theorem StOk.at (S : StOk B H μ st) {n : Nat} {a : Addr} (h : μ[n]? = some a) : ∃ c, st[n]? = some c ∧ CellOk B H μ a c := by
  have hn : n < st.length := by rw [← S.len]; exact (List.getElem?_eq_some_iff.mp h).1
  exact ⟨st[n], List.getElem?_eq_getElem hn, S.cell n a _ h (List.getElem?_eq_getElem hn)⟩
theorem StOk.of (S : StOk B H μ st) {n : Nat} {c : Cell} (h : st[n]? = some c) : ∃ a, μ[n]? = some a ∧ CellOk B H μ a c := by
  have hn : n < μ.length := by rw [S.len]; exact (List.getElem?_eq_some_iff.mp h).1
  exact ⟨μ[n], List.getElem?_eq_getElem hn, S.cell n _ _ (List.getElem?_eq_getElem hn) h⟩
theorem StOk.there (S : StOk B H μ st) {a : Addr} (h : a ∈ μ) : ∃ o, H a = some o := by
  obtain ⟨n, hn⟩ := List.getElem?_of_mem h
  obtain ⟨c, _, k⟩ := S.at hn
  exact k.there
theorem StOk.fresh (S : StOk B H μ st) {p : Addr} (h : H p = none) : Out B μ p := by
  refine ⟨fun hm => ?_, fun hm => ?_⟩
  · obtain ⟨o, e⟩ := S.there hm
    rw [h] at e; cases e
  · obtain ⟨o, e⟩ := S.hid p hm
    rw [h] at e; cases e
theorem StOk.new (S : StOk B H μ st) {p : Addr} {o : HO} (h : H p = none) : StOk B (upd H p o) μ st := by
  refine ⟨S.len, S.nd, fun a ha => (S.hid a ha).elim fun o e => (Later.new (μ := μ) h).live a o e, fun n a c h1 h2 => (S.cell n a c h1 h2).mono (Later.new h) fun u e => ?_⟩
  rw [upd_ne (ne_of_none e h)]; exact e
/-- a new thing, hidden -/
theorem StOk.hide (S : StOk B H μ st) {p : Addr} {o : HO} (h : H p = none) : StOk (B.hide p) (L2.upd H p o) μ st := by
  refine ⟨S.len, S.nd, fun a ha => ?_, fun n a c h1 h2 => (S.cell n a c h1 h2).tran (tr_hide h) fun u e => ?_⟩
  · rcases List.mem_cons.mp ha with z | z
    · exact ⟨o, by rw [z]; exact upd_same⟩
    · exact (S.hid a z).elim fun o e => (Later.new (μ := μ) h).live a o e
  · rw [upd_ne (ne_of_none e h)]; exact e
theorem StOk.bare {p : Addr} (S : StOk (B.hide p) H μ st) : StOk B H μ st :=
  ⟨S.len, S.nd, fun a ha => S.hid a (List.mem_cons_of_mem _ ha), fun n a c h1 h2 => (S.cell n a c h1 h2).tran tr_bare fun _ e => e⟩
/-- what is hidden is changed -/
theorem StOk.updH (S : StOk B H μ st) {p : Addr} {o : HO} (h : p ∈ B.hid) (h' : p ∉ μ) : StOk B (L2.upd H p o) μ st := by
  refine ⟨S.len, S.nd, fun a ha => ?_, fun n a c h1 h2 => (S.cell n a c h1 h2).tran (tr_upd h) fun u e => ?_⟩
  · by_cases z : a = p
    · exact ⟨o, by rw [z]; exact upd_same⟩
    · obtain ⟨u, e⟩ := S.hid a ha
      exact ⟨u, by rw [upd_ne z]; exact e⟩
  · have ne : a ≠ p := fun z => h' (z ▸ List.mem_of_getElem? h1)
    rw [upd_ne ne]; exact e
theorem StOk.newM (S : StOk B H μ st) {p : Addr} {o : HO} {c : Cell} (h : H p = none) (hc : CellOk B (upd H p o) (μ ++ [p]) p c) : StOk B (upd H p o) (μ ++ [p]) (st ++ [c]) := by
  refine ⟨by rw [List.length_append, List.length_append, S.len]; rfl, ?_, fun a ha => (S.hid a ha).elim fun o e => (Later.newM (μ := μ) h).live a o e, fun n a c' h1 h2 => ?_⟩
  · rw [List.nodup_append]
    refine ⟨S.nd, by simp, fun a ha b hb => ?_⟩
    rw [List.mem_singleton.mp hb]
    exact fun e => (S.fresh h).1 (e ▸ ha)
  · by_cases hn : n < μ.length
    · rw [List.getElem?_append_left hn] at h1
      rw [List.getElem?_append_left (by rw [← S.len]; exact hn)] at h2
      refine (S.cell n a c' h1 h2).mono (Later.newM h) fun u e => ?_
      rw [upd_ne (ne_of_none e h)]; exact e
    · have hn' : n = μ.length := by
        have := (List.getElem?_eq_some_iff.mp h1).1
        rw [List.length_append] at this
        simp at this; omega
      subst hn'
      rw [List.getElem?_append_right (Nat.le_refl _), Nat.sub_self] at h1
      rw [S.len, List.getElem?_append_right (Nat.le_refl _), Nat.sub_self] at h2
      simp at h1 h2; subst h1 h2
      exact hc
theorem nodup_inj {α : Type} {l : List α} (hd : l.Nodup) {i j : Nat} (hi : i < l.length) (hj : j < l.length) (e : l[i] = l[j]) : i = j := by
  have q := List.pairwise_iff_getElem.mp hd
  rcases Nat.lt_trichotomy i j with h | h | h
  · exact absurd e (q i j hi hj h)
  · exact h
  · exact absurd e.symm (q j i hj hi h)
theorem StOk.upd (S : StOk B H μ st) {n : Nat} {a : Addr} {o : HO} {c : Cell} (h : μ[n]? = some a) (hc : CellOk B (L2.upd H a o) μ a c) : StOk B (L2.upd H a o) μ (st.set n c) := by
  have hn : n < μ.length := (List.getElem?_eq_some_iff.mp h).1
  refine ⟨by rw [List.length_set]; exact S.len, S.nd, fun b hb => (S.hid b hb).elim fun u e => (Later.upd (List.mem_of_getElem? h)).live b u e, fun m b c' h1 h2 => ?_⟩
  by_cases z : m = n
  · subst z
    rw [List.getElem?_set_self (by rw [← S.len]; exact hn)] at h2
    rw [h] at h1
    cases h1; cases h2
    exact hc
  · rw [List.getElem?_set_ne (fun e => z e.symm)] at h2
    have hm : m < μ.length := (List.getElem?_eq_some_iff.mp h1).1
    have ne : b ≠ a := by
      intro e
      subst e
      have e1 := (List.getElem?_eq_some_iff.mp h1).2
      have e2 := (List.getElem?_eq_some_iff.mp h).2
      exact z (nodup_inj S.nd hm hn (e1.trans e2.symm))
    refine (S.cell m b c' h1 h2).mono (Later.upd (List.mem_of_getElem? h)) fun u e => ?_
    rw [upd_ne ne]; exact e
end
end Rx

set_option Elab.async false
set_option linter.all false
set_option maxRecDepth 100000
set_option maxHeartbeats 4000000
/-! a tuple times 1, 0 or less -/
namespace Rx
open PySem PySem.Spec PyProof.Rows L2
/-- t * 1 is t -/
theorem tuple_mul1 (l : Addr) (items : Array Value) (n : Nat) (dd : Option Addr) (sl : Array (Option Value)) (u : Tok) :
    Meets (Builtin.«tuple.__mul__» ⟨[.ref l, .int 1 u], []⟩) (fun _ R s => s.heap.get? l = some { cls := .type "tuple", dict := dd, data := .seq items n, slots := sl } ∧ R (.ok (.ret (Value.ref l))) s) :=
  .of_wp fun prog w A R s h => by
    obtain ⟨hp, g, d, tk, os⟩ := s
    obtain ⟨hl, h⟩ := h
    have f1 := AutoSeq1.idx_int
    have z0 : (decide ((1 : Int) < -(2 ^ 63)) || decide ((1 : Int) ≥ 2 ^ 63)) = false := by decide
    have z1 : (items.isEmpty || (1 : Int) == 1) = true := by rw [Bool.or_eq_true]; exact .inr rfl
    wp_walk using wpAny_loadPart' hl
    repeat (first
      | (refine wpAny_ite_false (decide_eq_false (by rw [z0]; exact Bool.false_ne_true)) ?_; wp_walk using wpAny_loadPart' hl)
      | (refine wpAny_ite_true (decide_eq_true (by rw [z1])) ?_; wp_walk using wpAny_loadPart' hl))
    exact ⟨_, rfl, h⟩
/-- t * 0 is a new empty tuple -/
theorem tuple_mul0 (l : Addr) (items : Array Value) (n : Nat) (dd : Option Addr) (sl : Array (Option Value)) (x : Int) (u : Tok) (z0 : (decide (x < -(2 ^ 63)) || decide (x ≥ 2 ^ 63)) = false) (z1 : (items.isEmpty || x == 1) = false) (z2 : (decide (x ≤ 0) || items.isEmpty) = true) :
    Meets (Builtin.«tuple.__mul__» ⟨[.ref l, .int x u], []⟩) (fun _ R s => s.heap.get? l = some { cls := .type "tuple", dict := dd, data := .seq items n, slots := sl } ∧
      R (.ok (.ret (Value.ref s.heap.objs.size))) { s with heap := s.heap.push { cls := Value.type "tuple", data := Data.seq #[] }, toks := s.toks }) :=
  .of_wp fun prog w A R s h => by
    obtain ⟨hp, g, d, tk, os⟩ := s
    obtain ⟨hl, h⟩ := h
    have f1 := AutoSeq1.idx_int
    wp_walk using wpAny_loadPart' hl
    repeat (first
      | (refine wpAny_ite_false (decide_eq_false (by rw [z0]; exact Bool.false_ne_true)) ?_; wp_walk using wpAny_loadPart' hl)
      | (refine wpAny_ite_false (decide_eq_false (by rw [z1]; exact Bool.false_ne_true)) ?_; wp_walk using wpAny_loadPart' hl)
      | (refine wpAny_ite_true (decide_eq_true (by rw [z2])) ?_; wp_walk using wpAny_loadPart' hl))
    exact ⟨_, rfl, h⟩
def rRep1 (K : PySem.W.Frag) : R2 := fun x y H Q => ∃ l xs, x = .ref l ∧ y = .int 1 ∧ SqT K H l xs ∧ Q (.ref l) H
def rRep0 (K : PySem.W.Frag) : R2 := fun x y H Q => ∃ l k xs, x = .ref l ∧ y = .int k ∧ SqT K H l xs ∧ xs ≠ [] ∧ -(2 ^ 63) ≤ k ∧ k ≤ 0 ∧ ∀ p, H p = none → Q (.ref p) (upd H p (.tup []))
section
variable {X : Cx}
theorem op_rep1 : OpR X (binaryOp .Mult) (rRep1 X.K) := by
  intro pins s σ H x y v u Q I rx ry h
  obtain ⟨l, xs, rfl, rfl, hT, q⟩ := h
  cases rx
  obtain ⟨t, rfl⟩ := ry
  obtain ⟨its, r, ⟨⟨cls, dd, data, sl⟩, ho, hc, n, hd⟩, hs⟩ := I.tuple hT
  simp only at hc hd
  subst hc hd
  refine wpAny_binaryOp_repeat_ref (T := "tuple") (U := "int") (by decide) ⟨_, ho, rfl⟩ (fun s' => typeIs_int s' 1 t) noFill_tuple_mul F.fills_int_mul F.slot_int_rmul repeat_tuple F.slot_int_index.lookup
    (call_meets F.slot_int_rmul (typeIs_int s 1 t) F.entry_int_rmul (F.args_int_rmul_2 _ _) (int_rmul_tuple 1 t l its.toArray n dd sl)
      ⟨ho, rfl, ⟨_, ho, rfl⟩, call_meets F.slot_tuple_mul ⟨_, ho, rfl⟩ F.entry_tuple_mul (F.args_tuple_mul_2 _ _) (tuple_mul1 l its.toArray n dd sl t) ⟨ho, ?_⟩⟩)
  exact ⟨.ref l, H, I, rfl, q⟩
theorem op_rep0 : OpR X (binaryOp .Mult) (rRep0 X.K) := by
  intro pins s σ H x y v u Q I rx ry h
  obtain ⟨l, k, xs, rfl, rfl, hT, hne, h1, h2, q⟩ := h
  cases rx
  obtain ⟨t, rfl⟩ := ry
  obtain ⟨its, r, ⟨⟨cls, dd, data, sl⟩, ho, hc, n, hd⟩, hs⟩ := I.tuple hT
  simp only at hc hd
  subst hc hd
  have hle : its.length = xs.length := r.length.symm
  have hn : its ≠ [] := fun e => hne (by
    rw [e] at hle
    exact List.eq_nil_of_length_eq_zero hle.symm)
  have hi : its.toArray.isEmpty = false := by
    cases its with
    | nil => exact absurd rfl hn
    | cons a b => rfl
  have z0 : (decide (k < -(2 ^ 63)) || decide (k ≥ 2 ^ 63)) = false := by
    rw [decide_eq_false (by omega), decide_eq_false (by omega)] <;> rfl
  have z1 : (its.toArray.isEmpty || k == 1) = false := by
    rw [hi, Bool.false_or]
    exact beq_eq_false_iff_ne.mpr (by omega)
  have z2 : (decide (k ≤ 0) || its.toArray.isEmpty) = true := by
    rw [decide_eq_true h2]; rfl
  refine wpAny_binaryOp_repeat_ref (T := "tuple") (U := "int") (by decide) ⟨_, ho, rfl⟩ (fun s' => typeIs_int s' k t) noFill_tuple_mul F.fills_int_mul F.slot_int_rmul repeat_tuple F.slot_int_index.lookup
    (call_meets F.slot_int_rmul (typeIs_int s k t) F.entry_int_rmul (F.args_int_rmul_2 _ _) (int_rmul_tuple k t l its.toArray n dd sl)
      ⟨ho, rfl, ⟨_, ho, rfl⟩, call_meets F.slot_tuple_mul ⟨_, ho, rfl⟩ F.entry_tuple_mul (F.args_tuple_mul_2 _ _) (tuple_mul0 l its.toArray n dd sl k t z0 z1 z2) ⟨ho, ?_⟩⟩)
  refine ⟨.ref s.heap.objs.size, _, I.laid (t' := s.toks) (o := .tup []) (fun b ob q => Heap.get?_push_of_some _ q) (Nat.le_refl _) ?_, rfl, q _ (I.hok.fresh (Nat.le_refl _))⟩
  exact ⟨Nat.zero_le _, _, .nil, IsTup.new _ _⟩
end
end Rx
namespace Rx
open PySem PySem.Spec PyProof.Rows L2
/-- a text some times -/
def repS (x : Str) (k : Int) : Str := ⟨(List.replicate k.toNat x.cps.toList).flatten.toArray⟩
theorem fold_rep (x : Array Nat) : ∀ (m : Nat) (acc : Array Nat), (List.replicate m x).foldl (· ++ ·) acc = acc ++ (List.replicate m x.toList).flatten.toArray
  | 0, acc => by simp
  | m + 1, acc => by
    rw [List.replicate_succ, List.foldl_cons, fold_rep x m (acc ++ x), List.replicate_succ, List.flatten_cons]
    apply Array.ext'
    simp
def rRepS : R2 := fun x y H Q => ∃ a k, x = .str a ∧ y = .int k ∧ -(2 ^ 63) ≤ k ∧ k ≤ 1000 ∧ a.length ≤ 1000 ∧ Q (.str (repS a k)) H
theorem op_repS {X : Cx} : OpR X (binaryOp .Mult) rRepS := by
  intro pins s σ H x y v u Q I rx ry h
  obtain ⟨a, k, rfl, rfl, h1, h2, h3, q⟩ := h
  obtain ⟨t, rfl⟩ := rx
  obtain ⟨t', rfl⟩ := ry
  have hp : ¬ k < 1 → ((a.length : Nat) : Int) * k ≤ 1000000 := fun h => by
    have a1 : ((a.length : Nat) : Int) * k ≤ 1000 * k := Int.mul_le_mul_of_nonneg_right (by omega) (by omega)
    omega
  refine P.mul_str (by rw [decide_eq_false (by omega), decide_eq_false (by omega)] <;> rfl) (fun c _ => ?_) (fun c _ => ?_) ?_
  · have := Int.le_ediv_of_mul_le (a := ((a.length : Nat) : Int)) (b := 2 ^ 63 - 1) (c := k) (by omega) (by have := hp c; omega)
    omega
  · have h4 := hp c
    have h5 : ((a.length * k.toNat : Nat) : Int) = ((a.length : Nat) : Int) * k := by rw [Int.natCast_mul, Int.toNat_of_nonneg (by omega)]
    unfold Builtin.Str.tooLong
    rw [sizeLine_eq]
    exact decide_eq_false (by omega)
  · have fin : ∀ (x : Str), x = repS a k → ∀ s', Inv X pins σ H s' → ∀ t', EP X pins σ Q (.str x t') s' := fun x e s' I' t' => ⟨.str x, H, I', ⟨t', rfl⟩, e ▸ q⟩
    by_cases c : k < 1
    · rw [if_pos c]
      refine ⟨by decide, fin _ ?_ _ (I.tok _) _⟩
      unfold repS
      rw [show k.toNat = 0 by omega]
      rfl
    · rw [if_neg c]
      by_cases c2 : (k == 1 || a.length == 0) = true
      · rw [if_pos c2]
        refine fin _ ?_ _ I _
        rcases Bool.or_eq_true _ _ ▸ c2 with e | e
        · have e : k = 1 := by simpa using e
          subst e
          simp [repS]
        · have e : a.cps = #[] := by
            have : a.cps.size = 0 := by simpa [Str.length] using e
            exact Array.eq_empty_of_size_eq_zero this
          obtain ⟨c⟩ := a
          simp only at e
          subst e
          simp [repS]
      · rw [if_neg c2]
        have e : (List.replicate k.toNat a.cps).foldl (· ++ ·) #[] = (List.replicate k.toNat a.cps.toList).flatten.toArray := by
          rw [fold_rep]
          apply Array.ext'
          simp
        rw [e]
        refine ⟨?_, fin _ rfl _ (I.tok _) _⟩
        have h4 := hp c
        have h5 : ((a.length * k.toNat : Nat) : Int) = ((a.length : Nat) : Int) * k := by rw [Int.natCast_mul, Int.toNat_of_nonneg (by omega)]
        show (List.replicate k.toNat a.cps.toList).flatten.toArray.size ≤ sizeLine
        rw [List.size_toArray, PyProof.Rows.lm_len_rep_flat, sizeLine_eq]
        have h6 : a.cps.toList.length = a.length := Array.length_toList
        rw [h6, Nat.mul_comm]
        omega
end Rx

set_option Elab.async false
set_option linter.all false
set_option maxRecDepth 100000
set_option maxHeartbeats 4000000
set_option autoImplicit false
/-! further rules of the hand layer: sorted of a tuple, enumerate of a tuple, d[k] and d[k] = v by values, == of dicts of nested data -/
namespace Rx
open PySem PySem.Spec PyProof.Rows L2
section
variable {prog : Program} {w : World} {A : Around} {E : Value → Shared → Prop} {s : Shared}
theorem collect_tuple {l : Addr} {vs : List Value} {Q : List Value → Shared → Prop} (hl : s.heap.IsTuple l vs.toArray)
    (h : Q vs { s with heap := (s.heap.push (seqObj "list" #[] 0)).update s.heap.objs.size (Obj.mapSeq (· ++ vs.toArray)) }) (hsz : vs.length ≤ sizeLine) :
    wpAny (model prog w) A (collect (.ref l)) Q E s := by
  obtain ⟨o, ho, hc, n, hd⟩ := id hl
  unfold collect
  refine wpAny_bind (wpAny_runValue (codeAny_builtin entry_proto_collect' ?_))
  show wpAny _ _ (do again (.builtin "list.__iadd__" ⟨[← newList [], .ref l], []⟩)) _ _ s
  refine wpAny_bind (wpAny_newList (wpAny_pure ⟨Code.quiet_builtin _ (by decide +kernel), codeAny_builtin entry_list_iadd' ?_⟩))
  show wpAny _ _ (Builtin.List.listExtendWith (.ref s.heap.objs.size) (.ref l) (.ref s.heap.objs.size)) _ _ { s with heap := s.heap.push (seqObj "list" #[] 0) }
  unfold Builtin.List.listExtendWith
  have ho' : (s.heap.push (seqObj "list" #[] 0)).get? l = some o := Heap.get?_push_of_some _ ho
  refine wpAny_bind (wpAny_typeOf (T := "tuple") ⟨o, ho', hc⟩ ?_)
  have ht : (Value.type "tuple" == Value.type "tuple") = true := by rfl
  rw [if_pos (by rw [ht]; simp)]
  refine wpAny_bind (listItems_at ho' hd ?_)
  refine wpAny_bind (listItems_at (xs := #[]) (n := 0) (Heap.get?_push_size _ rfl) rfl ?_)
  rw [if_neg (by simp)]
  refine wpAny_bind (listUpdate_at (xs := #[]) (n := 0) (Heap.get?_push_size _ rfl) rfl ?_ (Nat.zero_le _) (by show (#[] ++ vs.toArray).size ≤ sizeLine + 1; simp only [Array.size_append, List.size_toArray, List.length_nil]; omega))
  refine wpAny_pure ?_
  show wpAny (model prog w) A (do
      let o ← load s.heap.objs.size
      match o.data with
      | .seq xs _ => pure xs.toList
      | _ => unsupported "internal:collect") Q E { s with heap := (s.heap.push (seqObj "list" #[] 0)).update s.heap.objs.size (Obj.mapSeq (· ++ vs.toArray)) }
  refine wpAny_bind (wpAny_load (get?_update_seq (Heap.get?_push_size _ rfl) _) ?_)
  show wpAny _ _ (pure ((#[] : Array Value) ++ vs.toArray).toList) Q E _
  rw [show ((#[] : Array Value) ++ vs.toArray).toList = vs by simp]
  exact wpAny_pure h
open SrtO Srt in
theorem sorted_ordT {l : Addr} {vs : List Value} {ltv : Value → Value → Bool} {Q : Value → Shared → Prop} (O : Swo ltv) (hl : s.heap.IsTuple l vs.toArray) (hz : vs.length ≤ sizeLine)
    (hS : 2 ≤ vs.length → ∀ (h₁ : Heap) (a : Addr), h₁.get? a = some (seqObj "list" vs.toArray 0) → (∀ b o, s.heap.get? b = some o → b ≠ a ∧ h₁.get? b = some o) → SortableO prog w A.in1.in1 { s with heap := h₁ } a vs ltv)
    (h : ∀ out : List Value, Srtd ltv out → Stb ltv out vs → Q (.ref (s.heap.objs.size + 1)) { s with heap := sortedAll s.heap vs out.toArray }) :
    wpAny (model prog w) A (call (.builtin "sorted") [.ref l]) Q E s := by
  refine Calls.call_function_entry kind_sorted plain_sorted entry_sorted (args_sorted1 _) ?_
  unfold Builtin.«sorted»
  refine wpAny_bind (m := checkCount "sorted" 1 1 _) (wpAny_pure ?_)
  refine wpAny_bind (collect_tuple hl ?_ hz)
  refine wpAny_bind (wpAny_newList ?_ hz)
  have hsz : ((s.heap.push (seqObj "list" #[] 0)).update s.heap.objs.size (Obj.mapSeq (· ++ vs.toArray))).objs.size = s.heap.objs.size + 1 := by
    rw [Heap.size_update, size_push']
  have hoL : (((s.heap.push (seqObj "list" #[] 0)).update s.heap.objs.size (Obj.mapSeq (· ++ vs.toArray))).push (seqObj "list" vs.toArray 0)).get? (s.heap.objs.size + 1) = some (seqObj "list" vs.toArray 0) := by
    rw [← hsz]; exact Heap.get?_push_size _ rfl
  have keep : ∀ b o, s.heap.get? b = some o → b ≠ s.heap.objs.size + 1 ∧ (((s.heap.push (seqObj "list" #[] 0)).update s.heap.objs.size (Obj.mapSeq (· ++ vs.toArray))).push (seqObj "list" vs.toArray 0)).get? b = some o := fun b o q => by
    have hlt : b < s.heap.objs.size := Heap.lt_size q
    refine ⟨Nat.ne_of_lt (Nat.lt_succ_of_lt hlt), Heap.get?_push_of_some _ ?_⟩
    rw [Heap.get?_update_ne _ _ _ _ (Nat.ne_of_lt hlt)]
    exact Heap.get?_push_of_some _ q
  show wpAny _ _ _ _ _ { s with heap := ((s.heap.push (seqObj "list" #[] 0)).update s.heap.objs.size (Obj.mapSeq (· ++ vs.toArray))).push (seqObj "list" vs.toArray 0) }
  rw [hsz]
  refine wpAny_bind (wpAny_holding (wpAny_call_entry slot_list_sort ⟨_, hoL, rfl⟩ entry_list_sort (list_sort_ord O hoL hz (fun h2 => hS h2 _ _ hoL keep) fun out hs hb => ⟨_, rfl, ?_⟩) (args_list_sort _)))
  exact wpAny_pure ⟨_, rfl, h out hs hb⟩
end
section
variable {X : Cx}
def rSortT (K : PySem.W.Frag) : List V → Hp → VK → Prop := fun vs H Q => ∃ (a : Addr) (ns : List Int), vs = [V.ref a] ∧ SqT K H a (ns.map V.int) ∧
  ∀ (ns' : List Int) (p : Addr), ns'.Perm ns → ns'.Pairwise (· ≤ ·) → H p = none → Q (.ref p) (upd H p (.lst (ns'.map V.int)))
theorem cr_sortTup : CallR X (.builtin "sorted") (rSortT X.K) := by
  intro pins s σ H vs us Q I r h
  obtain ⟨a, ns, rfl, hs, q⟩ := h
  obtain ⟨its, rv, hl, hz⟩ := I.tuple hs
  rw [Vals.ref1 r]
  have hi := rv.ints
  refine sorted_ordT SrtO.swo_int (show s.heap.IsTuple a its.toArray from hl) (by rw [← rv.length]; exact hz) (fun h2 h₁ a' _ _ => SrtO.ints_sortable hi h2) fun out h1 h2 => ?_
  obtain ⟨k1, k2, k3⟩ := SrtO.ints_out hi h1 h2
  obtain ⟨ep, he'⟩ := PyProof.Rows.sortedAll_at s.heap its out.toArray
  have hlen : ((out.map SrtO.iv).map V.int).length ≤ sizeLine := by
    rw [List.length_map, k2.length_eq]
    rw [List.length_map] at hz
    exact hz
  exact ⟨.ref _, upd H (s.heap.objs.size + 1) (.lst ((out.map SrtO.iv).map V.int)), I.laid (t' := s.toks) (fun _ _ => PyProof.Rows.sortedAll_old) (Nat.le_succ _) ⟨hlen, out, ep, vals_of_ints k1, he'⟩, rfl, q _ _ k2 k3 (I.hok.fresh (Nat.le_succ _))⟩
end
end Rx
namespace PySem
open Sem (wp)
open AutoSeq1 (wpAny_loadPart')
theorem meets_enumerate_newT (l : Addr) (items : Array Value) (n : Nat) (dct : Option Addr) (sl : Array (Option Value)) :
    Meets (Builtin.«enumerate.__new__» ⟨[.type "enumerate", .ref l], []⟩) (fun _ R s => s.heap.get? l = some { cls := .type "tuple", dict := dct, data := .seq items n, slots := sl } ∧
      R (.ok (.ret (.ref (s.heap.push { cls := .type "tuple_iterator", data := .fields #[.ref l, .int 0 0] }).objs.size)))
        { s with heap := (s.heap.push { cls := .type "tuple_iterator", data := .fields #[.ref l, .int 0 0] }).push { cls := .type "enumerate", data := .fields #[.none, .bool false, .ref s.heap.objs.size, rawInt 0, .none, .none] } }) :=
  .of_wp fun prog w A R s h => by
    obtain ⟨hp, g, d, tk, os⟩ := s; obtain ⟨hl, h⟩ := h
    have hsub := sub_enumerate
    have hL : Heap.IsTuple (Shared.heap ⟨hp, g, d, tk, os⟩) l items := ⟨_, hl, rfl, n, rfl⟩
    wp_walk using wpAny_loadPart' hl
    refine wpAny_stack_any fun st => wpAny_pure ?_
    split
    · rename_i c _ _ _ _ _
      cases (c == Value.type "enumerate")
      · wp_walk using wpAny_loadPart' hl, wpAny_pyIter_tuple hL
        exact ⟨_, rfl, h⟩
      · wp_walk using wpAny_loadPart' hl, wpAny_pyIter_tuple hL
        exact ⟨_, rfl, h⟩
    · wp_walk using wpAny_loadPart' hl, wpAny_pyIter_tuple hL
      exact ⟨_, rfl, h⟩
section
variable {prog : Program} {w : World} {A : Around} {E : Value → Shared → Prop} {s : Shared}
theorem call_enumerate_tuple {l : Addr} {items : Array Value} {Q : Value → Shared → Prop} (hL : s.heap.IsTuple l items)
    (h : ∀ h', IsEnum h' (s.heap.objs.size + 1) s.heap.objs.size 0 .none → h'.IsTupleIter s.heap.objs.size l 0 → h'.objs.size = s.heap.objs.size + 2 →
      (∀ b o, s.heap.get? b = some o → h'.get? b = some o) → Q (.ref (s.heap.objs.size + 1)) { s with heap := h' }) :
    wpAny (model prog w) A (call (.type "enumerate") [.ref l]) Q E s := by
  obtain ⟨⟨c, dct, dt, sl⟩, hl, hc, n, hd⟩ := hL
  replace hc : c = .type "tuple" := hc
  replace hd : dt = .seq items n := hd
  subst hc hd
  refine callType_new F.called_enumerate (by decide) (F.typeCall_enumerate_1 _) (F.newCall_enumerate_1 _) (fun obj => F.args_object_init_2 obj _) F.entry_enumerate_new
    (meets_enumerate_newT l items n dct sl) ⟨hl, ?_⟩
  have hz : (s.heap.push { cls := .type "tuple_iterator", data := .fields #[.ref l, .int 0 0] }).objs.size = s.heap.objs.size + 1 := Heap.size_push ..
  show _ ∧ _
  rw [hz]
  have he : IsEnum ((s.heap.push { cls := .type "tuple_iterator", data := .fields #[.ref l, .int 0 0] }).push
      { cls := .type "enumerate", data := .fields #[.none, .bool false, .ref s.heap.objs.size, rawInt 0, .none, .none] }) (s.heap.objs.size + 1) s.heap.objs.size 0 .none := by
    have := Heap.get?_push_size (s.heap.push { cls := .type "tuple_iterator", data := .fields #[.ref l, .int 0 0] })
      (o := { cls := .type "enumerate", data := .fields #[.none, .bool false, .ref s.heap.objs.size, rawInt 0, .none, .none] }) rfl
    rw [hz] at this; exact this
  refine ⟨⟨_, he, rfl⟩, h _ he ⟨_, Heap.get?_push_of_some _ (Heap.get?_push_size _ rfl), rfl, rfl⟩ (by rw [Heap.size_push, hz]) fun b o x => Heap.get?_push_of_some _ (Heap.get?_push_of_some _ x)⟩
theorem wpAny_pyNext_enumT_end {e it l : Addr} {i : Nat} {items : Array Value} {old : Value} {Q : Option Value → Shared → Prop} (hh : A.handled = none)
    (he : IsEnum s.heap e it i old) (hit : s.heap.IsTupleIter it l i) (hl : s.heap.IsTuple l items) (hx : items[i]? = none)
    (hQ : ∀ h', Heap.ExtBut it s.heap h' → Q none { s with heap := h' }) : wpAny (model prog w) A (pyNext (.ref e)) Q E s := by
  have hT : s.TypeIs (.ref e) "enumerate" := ⟨_, he, rfl⟩
  unfold pyNext
  refine wpAny_bind (wpAny_attempt (wpAny_callSpecial?_slot (name := Str.ofString "__next__") hT F.slot_enumerate_next
    (wpAny_call_entry F.slot_enumerate_next hT F.entry_enumerate_next ?_ (F.args_enumerate_next_1 _))))
  show wpAny _ _ (field (.ref e) 2 >>= _) _ _ _
  refine wpAny_bind (wpAny_field he rfl (x := .ref it) rfl ?_)
  refine wpAny_bind (RZ.nextOf_tuple_end hh hit hl hx fun h' x he' hx' => ?_)
  obtain ⟨o, ho, hc⟩ := hx'
  refine wpAny_bind (wpAny_isInstance (T := "StopIteration") (b := true) ⟨o, ho, hc⟩ isSubtype_stop ?_)
  exact wpAny_pure (hQ _ he')
end
end PySem
namespace Rx
open PySem PySem.Spec PyProof.Rows L2
/-- the tuple at a, the items in new pairs -/
def IteT (K : PySem.W.Frag) (a : Addr) : It :=
  ⟨fun i H => ∃ (xs : List V) (x : V), SqT K H a xs ∧ xs[i]? = some x, fun i H v H' => ∃ T x, v = .ref T ∧ H T = none ∧ H' = upd H T (.tup [.int (i : Nat), x]) ∧ ∀ xs, SqT K H a xs → xs[i]? = some x, fun i H => ∃ xs : List V, SqT K H a xs ∧ xs.length ≤ i⟩
theorem turn_enumT {P : Program} {w : World} {K : PySem.W.Frag} {elts : List Expr} {kk : Nat} {tpos : Pos} (a e it : Addr) :
    Turn P w K (.Tuple elts kk tpos) (IteT K a) [e, it] e (fun i h => (∃ old, IsEnum h e it ((i : Nat) : Int) old) ∧ h.IsTupleIter it a i ∧ e ≠ it ∧ e ≠ a ∧ a ≠ it) where
  mem := by simp
  obj := fun i h st b hb => by
    obtain ⟨⟨old, he⟩, ⟨o, ho, hc, hd⟩, _⟩ := st
    have e' : b = e ∨ b = it := by simpa using hb
    rcases e' with z | z
    · rw [z]; exact ⟨_, he, fun v q => nomatch q⟩
    · rw [z]; exact ⟨o, ho, fun v q => by rw [hd] at q; cases q⟩
  keep := fun i h h' st k => let ⟨⟨old, he⟩, hi, hne⟩ := st; ⟨⟨old, k e (by simp) _ he⟩, hi.at fun o q => k it (by simp) o q, hne⟩
  item := by
    intro X hP hw hK hc i pins s σ H E I hf st hg
    subst hP hw hK
    obtain ⟨⟨old, he⟩, hit, hne, hea, hia⟩ := st
    obtain ⟨xs, x, hq, hx⟩ := hg
    obtain ⟨its, rv, p, hz⟩ := I.tuple hq
    obtain ⟨u, hu, ru⟩ := rv.get hx
    have hel : e < s.heap.objs.size := Heap.lt_size he
    have hil : it < s.heap.objs.size := by obtain ⟨_, q, _⟩ := hit; exact Heap.lt_size q
    have hlt : i < its.toArray.size := by
      have := (List.getElem?_eq_some_iff.mp hu).1
      simpa using this
    have D := Draws.tuple (prog := X.prog) (w := X.w) (A := X.A.in1) (I.ok.hd hc) it a hia its.toArray
    refine wpAny_pyNext_enum_itemD D he ⟨hit, p⟩ hlt hne (by simp [hne, hea]) fun x' h' tk hp ho st' hT hsz hk => ?_
    have hxu : x' = u := by
      have hp : its.toArray[i]? = some x' := hp
      rw [List.getElem?_toArray, hu] at hp
      exact (Option.some.inj hp).symm
    subst hxu
    refine ⟨_, rfl, wpAny_letOwnedTupleGo_enum (s := { s with heap := h', toks := tk + 1 }) ho fun h'' he' sb => ?_⟩
    have hT2 : h''.get? s.heap.objs.size = some { cls := .type "tuple", data := .seq #[.int i tk, x'] } := (sb.2 _ (Nat.ne_of_gt hel)).trans hT
    have new : ObjOk X.prog X.w (upd H s.heap.objs.size (.tup [.int (i : Nat), x])) h'' s.heap.objs.size (.tup [.int (i : Nat), x]) :=
      ⟨by show 2 ≤ sizeLine; decide, [.int i tk, x'], .cons ⟨_, rfl⟩ (.cons ru .nil), ⟨_, hT2, rfl, _, rfl⟩⟩
    have I1 : Inv X pins σ (upd H s.heap.objs.size (.tup [.int (i : Nat), x])) { s with heap := h'', toks := tk + 1 } :=
      I.turnedNew (ch := [e, it]) (fun b ob hb q => (sb.2 b (fun z => hb (by simp [z]))).trans (hk b ob (fun z => hb (by simp [z])) (fun z => hb (by simp [z])) q)) hf (Nat.le_refl _) new
    refine ⟨.ref s.heap.objs.size, _, I1, rfl, ⟨_, x, rfl, I.hok.fresh (Nat.le_refl _), rfl, fun ys hy => by rw [I.tuple_inj hy hq]; exact hx⟩, ⟨⟨x', ?_⟩, st'.1.at fun o q => (sb.2 it (Ne.symm hne)).trans q, hne, hea, hia⟩, fun b hb => ?_⟩
    · have e1 : ((i + 1 : Nat) : Int) = (i : Int) + 1 := by omega
      rw [e1]; exact he'
    · have hb' : b < s.heap.objs.size := by
        have e' : b = e ∨ b = it := by simpa using hb
        rcases e' with z | z
        · rw [z]; exact hel
        · rw [z]; exact hil
      rw [upd_ne (Nat.ne_of_lt hb')]
      exact (hf b hb).1
  done := by
    intro X hP hw hK hc i pins s σ H E I hf st hg
    subst hP hw hK
    obtain ⟨⟨old, he⟩, hit, hne, hea, hia⟩ := st
    obtain ⟨xs, hq, hx⟩ := hg
    obtain ⟨its, rv, p, hz⟩ := I.tuple hq
    obtain ⟨f0, f1, f2, f3, f4, f5⟩ := hf it (by simp)
    have hl := rv.length
    exact wpAny_pyNext_enumT_end (I.ok.hd hc) he hit p (by simp; omega) fun h' eb => ⟨rfl, I.turned (t' := s.toks) (fun b o hb q => eb b o hb q) f0 f1 f3 f4 f5⟩
  self := fun A i s Q E st h => let ⟨⟨_, he⟩, _⟩ := st; wpAny_pyIter_enum he h
end Rx
namespace Rx
open PySem PySem.Spec PyProof.Rows L2
def iEnumT (K : PySem.W.Frag) (ta : TA) : TI := fun σ H R => ta σ H fun vs H1 => ∃ a xs, vs = [.ref a] ∧ ((SqL K H1 a xs ∧ R (Ite K a) H1) ∨ (SqT K H1 a xs ∧ R (IteT K a) H1))
theorem pi_enumX {X : Cx} {e : Expr} {ta : TA} {p pos tpos : Pos} {elts : List Expr} {kk : Nat} (hg : Gl X "enumerate") (hm : X.mg "enumerate" = none) (ha : PA X [e] ta) (hs : starEach [e] X.env = [(false, eval e X.env)] := by rfl) :
    PI X (.Tuple elts kk tpos) (.Call (.Name "enumerate" p) [e] [] pos) (iEnumT X.K ta) := by
  refine ⟨fun pins s σ H R I h => ?_⟩
  refine Call_ (ld_blt I hg hm boot_enumerate (PyProof.Rows.callWith_type1 (thn (ha.run pos pins s σ H _ I h) fun us s1 ⟨vs, H1, I1, r1, q1⟩ => ?_) hs rfl))
  obtain ⟨a, xs, ex, q⟩ := q1
  subst ex
  cases r1 with
  | cons r rr =>
    cases rr
    cases r
    have fpk : ∀ b, b ∈ [s1.heap.objs.size + 1, s1.heap.objs.size] → FpOk X pins H1 b := fun b hb => by
      have e' : b = s1.heap.objs.size + 1 ∨ b = s1.heap.objs.size := by simpa using hb
      have hle : s1.heap.objs.size ≤ b := by
        rcases e' with z | z
        · rw [z]; exact Nat.le_add_right _ _
        · rw [z]; exact Nat.le_refl _
      exact I1.fpOk hle (I1.hok.fresh hle)
    rcases q with ⟨hq, q⟩ | ⟨hq, q⟩
    · obtain ⟨its, rv, p', hz⟩ := I1.list hq
      refine call_enumerate_list p'.isList fun h' he hit hsz hk => wpAny_pyIter_enum he ?_
      have I2 : Inv X pins σ H1 { s1 with heap := h' } := I1.kept (t' := s1.toks) hk
      exact ⟨s1.heap.objs.size + 1, [s1.heap.objs.size + 1, s1.heap.objs.size], _, _, H1, rfl, I2, turn_enum a (s1.heap.objs.size + 1) s1.heap.objs.size, ⟨⟨.none, he⟩, hit, Nat.succ_ne_self _⟩, fpk, q⟩
    · obtain ⟨its, rv, p', hz⟩ := I1.tuple hq
      have hlt : a < s1.heap.objs.size := by obtain ⟨o, ho, _⟩ := p'; exact Heap.lt_size ho
      refine call_enumerate_tuple p' fun h' he hit hsz hk => wpAny_pyIter_enum he ?_
      have I2 : Inv X pins σ H1 { s1 with heap := h' } := I1.kept (t' := s1.toks) hk
      exact ⟨s1.heap.objs.size + 1, [s1.heap.objs.size + 1, s1.heap.objs.size], _, _, H1, rfl, I2, turn_enumT a (s1.heap.objs.size + 1) s1.heap.objs.size, ⟨⟨.none, he⟩, hit, Nat.succ_ne_self _, Nat.ne_of_gt (Nat.lt_succ_of_lt hlt), Nat.ne_of_lt hlt⟩, fpk, q⟩
/-! ### dicts by values -/
section
variable {X : Cx}
def rIxD : R2 := fun x y H Q => ∃ a v, x = .ref a ∧ DGet H a y (some v) ∧ Q v H
theorem ix_dict (hu : X.A.units + 1 < cLine) : IxR X rIxD := by
  intro value slice pins s σ H x y v u Q I rx ry h hs
  obtain ⟨a, z, rfl, g, q⟩ := h
  obtain rfl : v = Value.ref a := rx
  have hT := dict_typeIs I g
  unfold subscriptTail
  refine wpAny_bind ?_
  rw [getitemInPython_of_ne hT.not_modules]
  refine wpAny_bind (wpAny_specialOf hT PySem.F.slot_dict_getitem.lookup ?_)
  have fin : wpAny (model X.prog X.w) X.A (subscripted slice false (.ref a) u) (fun r s₃ => wpAny (model X.prog X.w) X.A (letTemporaryGo value (.ref a) r >>= fun _ => pure r) (EP X pins σ Q) X.xe s₃) X.xe s := by
    rw [hs]
    exact wpAny_operating (wpAny_mono (d_getItem hu I g ry fun w' s3 I3 rw' => (⟨z, H, I3, rw', q⟩ : EP X pins σ Q w' s3)) (fun r s₃ h₃ => wpAny_bind (wpAny_letTemporaryGo (wpAny_pure h₃))) fun _ _ x => x)
  first
    | exact wpAny_pure (wpAny_bind fin)
    | exact wpAny_bind (wpAny_pure (wpAny_bind fin))
    | exact wpAny_pure fin
end
end Rx

set_option Elab.async false
set_option linter.all false
set_option maxRecDepth 100000
set_option maxHeartbeats 2000000
set_option autoImplicit false
namespace Rx
open PySem L2 TL

/-! ### texts -/
theorem tl_s (s : String) : tl (Str.ofString s) = s.toList.map Char.toNat := tl_ofString s
theorem cps_s (s : String) : (Str.ofString s).cps.toList = s.toList.map Char.toNat := tl_ofString s
theorem len_s (s : String) : (Str.ofString s).length = s.length := by
  rw [len_tl, tl_s, List.length_map, String.length_toList]
theorem app_s (s t : String) : Str.ofString (s ++ t) = Str.ofString s ++ Str.ofString t := by
  apply ext_tl
  rw [tl_append, tl_s, tl_s, tl_s, String.toList_append, List.map_append]
theorem of_tl {x : Str} {l : List Char} (h : tl x = l.map Char.toNat) : x = Str.ofString (String.ofList l) := by
  apply ext_tl
  rw [h, tl_s, String.toList_ofList]
theorem char_inj {a b : Char} (h : a.toNat = b.toNat) : a = b := Char.toNat_inj.mp h
theorem map_inj : ∀ {l m : List Char}, l.map Char.toNat = m.map Char.toNat → l = m
  | [], [], _ => rfl
  | [], _ :: _, h => by simp at h
  | _ :: _, [], h => by simp at h
  | a :: l, b :: m, h => by
    rw [List.map_cons, List.map_cons] at h
    injection h with h1 h2
    rw [char_inj h1, map_inj h2]
theorem s_inj {s t : String} (h : Str.ofString s = Str.ofString t) : s = t := by
  apply String.toList_inj.mp
  apply map_inj
  rw [← tl_s, ← tl_s, h]
theorem sign_s (c : Char) : (⟨#[c.toNat]⟩ : Str) = Str.ofString (String.ofList [c]) := by
  apply ext_tl
  rw [tl_s, String.toList_ofList]
  rfl
theorem line_eq : sizeLine = LINE := by rw [sizeLine_eq]; rfl

/-! ### readings of evaluations -/
section
variable {α β γ δ : Type}
abbrev RR (α β : Type) := Bg → Hp → List Addr → α → β → Prop
def repD : RR D V := fun B H μ d v => Rep B H μ d v
def repDs : RR (List D) (List V) := fun B H μ d v => Reps B H μ d v
def repB : RR Bool Bool := fun _ _ _ d v => d = v
def repO : RR (Option Int) (Option Int) := fun _ _ _ d v => d = v
def Wd (B : Bg) (H : Hp) (μ : List Addr) (R : RR α β) (r : Res α) (Q : β → Hp → Prop) : Prop :=
  ∃ d st', r = .ok d st' ∧ ∀ v H' μ', Later H μ H' μ' → StOk B H' μ' st' → R B H' μ' d v → Q v H'
structure Now (B : Bg) (H : Hp) (μ : List Addr) (ρ : Slots) (σ : L2.St) (st : Store) : Prop where
  st : StOk B H μ st
  len : ρ.length = σ.length
  sl : ∀ (i : Nat) (d : D), ρ[i]? = some (some d) → ∃ v, σ[i]? = some (some v) ∧ Rep B H μ d v
def tR (K : PySem.W.Frag) (R : RR α β) (f : Slots → Store → Res α) : L2.St → Hp → (β → Hp → Prop) → Prop := fun σ H Q =>
  ∃ B μ ρ st, B.K = K ∧ Now B H μ ρ σ st ∧ Wd B H μ R (f ρ st) Q
variable {B : Bg} {H H' H1 : Hp} {μ μ' μ1 : List Addr} {ρ : Slots} {σ : L2.St} {st st1 : Store} {R : RR α β} {R' : RR γ δ}
theorem Now.later (N : Now B H μ ρ σ st) (L : Later H μ H1 μ1) (S : StOk B H1 μ1 st1) : Now B H1 μ1 ρ σ st1 :=
  ⟨S, N.len, fun i d e => let ⟨v, h1, h2⟩ := N.sl i d e; ⟨v, h1, Rep.mono L d v h2⟩⟩
theorem Wd.imp {r : Res α} {Q Q' : β → Hp → Prop} (W : Wd B H μ R r Q) (h : ∀ x H1, Q x H1 → Q' x H1) : Wd B H μ R r Q' :=
  let ⟨d, st', e, k⟩ := W
  ⟨d, st', e, fun v H' μ' L S r => h v H' (k v H' μ' L S r)⟩
theorem Wd.seq {r : Res α} {g : α → Store → Res γ} {Q : δ → Hp → Prop} (W : Wd B H μ R' (r.bind g) Q) :
    Wd B H μ R r (fun x H1 => ∃ μ1 d st1, Later H μ H1 μ1 ∧ StOk B H1 μ1 st1 ∧ R B H1 μ1 d x ∧ Wd B H1 μ1 R' (g d st1) Q) := by
  obtain ⟨e, st', h, k⟩ := W
  cases r with
  | no => cases h
  | ok d st1 => exact ⟨d, st1, rfl, fun v H1 μ1 L S rep => ⟨μ1, d, st1, L, S, rep, e, st', h, fun v H' μ' L' S' r' => k v H' μ' (L.trans L') S' r'⟩⟩
/-- it is there as it stands -/
theorem Wd.here {d : α} {st : Store} {x : β} {Q : β → Hp → Prop} (W : Wd B H μ R (.ok d st) Q) (S : StOk B H μ st) (r : R B H μ d x) : Q x H := by
  obtain ⟨d', st', e, k⟩ := W
  cases e
  exact k x H μ Later.refl S r
theorem Wd.not {Q : β → Hp → Prop} (W : Wd B H μ R .no Q) : False := by
  obtain ⟨d', st', e, k⟩ := W
  cases e
/-- it is there in a heap with a new thing -/
theorem Wd.new {d : α} {st : Store} {x : β} {Q : β → Hp → Prop} {p : Addr} {o : HO} (W : Wd B H μ R (.ok d st) Q) (S : StOk B H μ st) (h : H p = none) (r : R B (upd H p o) μ d x) : Q x (upd H p o) := by
  obtain ⟨d', st', e, k⟩ := W
  cases e
  exact k x _ μ (Later.new h) (S.new h) r
end

section
variable {B : Bg} {H : Hp} {μ : List Addr} {st : Store} {a b d : D} {x y : V} {Q : VK} {m : Bool} {xs ys : List D}
/-! ### lists and tuples -/
theorem Reps.nil {ds : List D} (r : Reps B H μ ds []) : ds = [] := by
  cases ds with
  | nil => rfl
  | cons d ds =>
    obtain ⟨_, _, e, _⟩ := r
    cases e
theorem sqT_of {ds : List D} (r : Rep B H μ (.tup ds) x) : ∃ p vs, x = .ref p ∧ SqT B.K H p vs ∧ Reps B H μ ds vs := by
  obtain ⟨p, vs, rfl, t, r⟩ := r
  refine ⟨p, vs, rfl, ?_, r⟩
  rcases t with t | t
  · exact .inl t.2
  · exact .inr t
theorem lst_rep (S : StOk B H μ st) (e : lstOf st a = some xs) (r : Rep B H μ a x) : ∃ p vs, x = .ref p ∧ H p = some (.lst vs) ∧ Reps B H μ xs vs := by
  cases a <;> simp only [lstOf] at e <;> try (cases e)
  · obtain ⟨p, vs, rfl, ⟨_, h⟩, r⟩ := r
    exact ⟨p, vs, rfl, h, r⟩
  · obtain ⟨p, rfl, h⟩ := r
    split at e
    · rename_i q
      cases e
      obtain ⟨a, h', c⟩ := S.of q
      rw [h] at h'; cases h'
      obtain ⟨vs, h2, r⟩ := c
      exact ⟨p, vs, rfl, h2, r⟩
    · cases e
theorem seq_rep (S : StOk B H μ st) (e : seqOf st a = some xs) (r : Rep B H μ a x) : ∃ p vs, x = .ref p ∧ (SqL B.K H p vs ∨ SqT B.K H p vs) ∧ Reps B H μ xs vs := by
  cases a <;> simp only [seqOf] at e <;> try (cases e)
  · obtain ⟨p, vs, rfl, t, r⟩ := sqT_of r
    exact ⟨p, vs, rfl, .inr t, r⟩
  · obtain ⟨p, vs, rfl, ⟨_, h⟩, r⟩ := r
    exact ⟨p, vs, rfl, .inl (SqL.of h), r⟩
  · obtain ⟨p, vs, rfl, t, r⟩ := r
    refine ⟨p, vs, rfl, .inl ?_, r⟩
    rcases t with t | t
    · exact .inl t.2
    · exact .inr t
  · obtain ⟨p, rfl, h⟩ := r
    split at e
    · rename_i q
      cases e
      obtain ⟨a, h', c⟩ := S.of q
      rw [h] at h'; cases h'
      obtain ⟨vs, h2, r⟩ := c
      exact ⟨p, vs, rfl, .inl (SqL.of h2), r⟩
    · cases e
theorem lro_rep (S : StOk B H μ st) (e : lroOf st a = some xs) (r : Rep B H μ a x) : ∃ p vs, x = .ref p ∧ SqL B.K H p vs ∧ Reps B H μ xs vs := by
  cases a <;> simp only [lroOf] at e <;> try (cases e)
  · obtain ⟨p, vs, rfl, ⟨_, h⟩, r⟩ := r
    exact ⟨p, vs, rfl, SqL.of h, r⟩
  · obtain ⟨p, vs, rfl, t, r⟩ := r
    refine ⟨p, vs, rfl, ?_, r⟩
    rcases t with t | t
    · exact .inl t.2
    · exact .inr t
  · obtain ⟨p, rfl, h⟩ := r
    split at e
    · rename_i q
      cases e
      obtain ⟨a, h', c⟩ := S.of q
      rw [h] at h'; cases h'
      obtain ⟨vs, h2, r⟩ := c
      exact ⟨p, vs, rfl, SqL.of h2, r⟩
    · cases e
mutual
/-- what == asks of a thing's place -/
def Re (K : PySem.W.Frag) (H : Hp) : D → V → Prop
  | .non, v => v = .non
  | .bl b, v => v = .bl b
  | .int i, v => v = .int i
  | .str s, v => v = .str (Str.ofString s)
  | .tup ds, v => ∃ a vs, v = .ref a ∧ SqT K H a vs ∧ Rq K H ds vs
  | .lst ds, v => ∃ a vs, v = .ref a ∧ SqL K H a vs ∧ Rq K H ds vs
  | _, _ => True
def Rq (K : PySem.W.Frag) (H : Hp) : List D → List V → Prop
  | [], vs => vs = []
  | d :: ds, vs => ∃ v r, vs = v :: r ∧ Re K H d v ∧ Rq K H ds r
end
mutual
theorem re_of : ∀ (d : D) (v : V), Rep B H μ d v → Re B.K H d v
  | .non, _, r => r
  | .bl _, _, r => r
  | .int _, _, r => r
  | .str _, _, r => r
  | .tup ds, _, r => by
    obtain ⟨p, vs, e, t, r⟩ := sqT_of r
    exact ⟨p, vs, e, t, res_of ds vs r⟩
  | .lst ds, _, r => by
    obtain ⟨p, vs, e, ⟨_, t⟩, r⟩ := r
    exact ⟨p, vs, e, SqL.of t, res_of ds vs r⟩
  | .ro _, _, _ => True.intro
  | .dct _ _, _, _ => True.intro
  | .loc _, _, _ => True.intro
theorem res_of : ∀ (ds : List D) (vs : List V), Reps B H μ ds vs → Rq B.K H ds vs
  | [], _, r => r
  | d :: ds, _, r => by
    obtain ⟨v, q, e, r1, r2⟩ := r
    exact ⟨v, q, e, re_of d v r1, res_of ds q r2⟩
end
theorem Rq.length {K : PySem.W.Frag} : ∀ {ds : List D} {vs : List V}, Rq K H ds vs → vs.length = ds.length
  | [], _, h => by cases h; rfl
  | d :: ds, _, h => by
    obtain ⟨v, r, rfl, _, h2⟩ := h
    rw [List.length_cons, List.length_cons, Rq.length h2]
theorem flat_re (S : StOk B H μ st) (r : Rep B H μ a x) : Re B.K H (flat1 st a) x := by
  cases a with
  | loc n =>
    obtain ⟨p, rfl, h⟩ := r
    obtain ⟨c, hc, k⟩ := S.at h
    unfold flat1
    simp only [hc]
    cases c with
    | lst ds =>
      obtain ⟨vs, h2, r⟩ := k
      exact ⟨p, vs, rfl, SqL.of h2, res_of ds vs r⟩
    | dct ks ds => exact True.intro
  | _ => exact re_of _ _ r
theorem newL_ok (S : StOk B H μ st) {vs : List V} (r : Reps B H μ xs vs) (W : Wd B H μ repD (newL m xs st) Q) : ∀ p, H p = none → Q (.ref p) (upd H p (.lst vs)) := by
  intro p hp
  unfold newL at W
  by_cases hm : m = true
  · rw [if_pos hm] at W
    obtain ⟨d, st', e, k⟩ := W
    cases e
    refine k _ _ (μ ++ [p]) (Later.newM hp) (S.newM hp ⟨vs, upd_same, Reps.mono (Later.newM hp) _ _ r⟩) ⟨p, rfl, ?_⟩
    rw [← S.len, List.getElem?_append_right (Nat.le_refl _), Nat.sub_self]; rfl
  · rw [if_neg hm] at W
    exact W.new S hp ⟨p, vs, rfl, ⟨S.fresh hp, upd_same⟩, Reps.mono (Later.new hp) _ _ r⟩
theorem tup_ok (S : StOk B H μ st) {vs : List V} (r : Reps B H μ xs vs) (W : Wd B H μ repD (.ok (.tup xs) st) Q) : ∀ p, H p = none → Q (.ref p) (upd H p (.tup vs)) := fun p hp =>
  W.new S hp ⟨p, vs, rfl, .inl ⟨S.fresh hp, .inl upd_same⟩, Reps.mono (Later.new hp) _ _ r⟩

/-! ### operators -/
def rAddX (K : PySem.W.Frag) : R2 := fun x y H Q => rI0 (fun i j => .int (i + j)) x y H Q ∨ (∃ i j, x = .str i ∧ y = .str j ∧ i.length + j.length ≤ sizeLine ∧ Q (.str (i ++ j)) H) ∨ rCatA K x y H Q ∨ rCat x y H Q
def rMulX (K : PySem.W.Frag) : R2 := fun x y H Q => rI CMul (fun i j => .int (i * j)) x y H Q ∨ rRepT K x y H Q ∨ rRep x y H Q ∨ rRep1 K x y H Q ∨ rRep0 K x y H Q ∨ rRepS x y H Q
theorem op_addX {X : Cx} : OpR X (binaryOp .Add) (rAddX X.K) := OpR.or op_add (OpR.or op_add_str (OpR.or op_catA op_cat))
theorem op_mulX {X : Cx} : OpR X (binaryOp .Mult) (rMulX X.K) := OpR.or op_mul (OpR.or op_repT (OpR.or op_rep (OpR.or op_rep1 (OpR.or op_rep0 op_repS))))
theorem add_ok (S : StOk B H μ st) (ra : Rep B H μ a x) (rb : Rep B H μ b y) (W : Wd B H μ repD (bop .add m a b st) Q) : rAddX B.K x y H Q := by
  have last : ∀ {xs ys : List D}, lstOf st a = some xs → lstOf st b = some ys → xs.length + ys.length ≤ LINE → Wd B H μ repD (newL m (xs ++ ys) st) Q → rAddX B.K x y H Q := by
    intro xs ys ha hb hl W
    obtain ⟨p, vs, rfl, h1, r1⟩ := lst_rep S ha ra
    obtain ⟨q, ws, rfl, h2, r2⟩ := lst_rep S hb rb
    refine .inr (.inr (.inr ⟨p, q, vs, ws, rfl, rfl, h1, h2, ?_, newL_ok S (Reps.app r1 r2) W⟩))
    rw [r1.length, r2.length, line_eq]; exact hl
  unfold bop at W
  split at W
  · cases ra; cases rb
    exact .inl ⟨_, _, rfl, rfl, W.here S rfl⟩
  · rename_i s t
    cases ra; cases rb
    simp only at W
    split at W
    · rename_i hl
      exact .inr (.inl ⟨_, _, rfl, rfl, by rw [len_s, len_s, line_eq]; exact hl, W.here S (by show _ = _; rw [app_s])⟩)
    · exact W.not.elim
  · simp only at W
    split at W
    · rename_i hl
      obtain ⟨p, vs, rfl, h1, r1⟩ := sqT_of ra
      obtain ⟨q, ws, rfl, h2, r2⟩ := sqT_of rb
      refine .inr (.inr (.inl ⟨p, q, vs, ws, rfl, rfl, h1, h2, by rw [r1.length, r2.length, line_eq]; exact hl, fun e => ?_, fun _ e => ?_, fun _ _ => tup_ok S (Reps.app r1 r2) W⟩))
      · subst e
        have e0 := r1.nil
        subst e0
        exact W.here S rb
      · subst e
        have e0 := r2.nil
        subst e0
        rw [List.append_nil] at W
        exact W.here S ra
    · exact W.not.elim
  · exact W.not.elim
  · exact W.not.elim
  · simp only at W
    exact W.not.elim
  · split at W
    · rename_i hx hy
      split at W
      · rename_i hl
        exact last hx hy hl W
      · exact W.not.elim
    · exact W.not.elim

theorem mul_ok (S : StOk B H μ st) (ra : Rep B H μ a x) (rb : Rep B H μ b y) (W : Wd B H μ repD (bop .mul m a b st) Q) : rMulX B.K x y H Q := by
  unfold bop at W
  split at W
  · rename_i i j
    cases ra; cases rb
    unfold bopI at W
    simp only at W
    split at W
    · rename_i hc
      exact .inl ⟨_, _, rfl, rfl, hc, W.here S rfl⟩
    · exact W.not.elim
  · exact W.not.elim
  · exact W.not.elim
  · simp only at W
    split at W
    · rename_i hl
      cases rb
      obtain ⟨p, vs, rfl, h1, r1⟩ := sqT_of ra
      have ne : vs ≠ [] := fun e => by
        subst e
        exact hl.1 r1.nil
      rename_i xs k
      by_cases c : 2 ≤ k
      · exact .inr (.inl ⟨p, _, vs, rfl, rfl, h1, ne, c, hl.2.2.1, by rw [r1.length]; exact hl.2.2.2, tup_ok S (r1.flat _) W⟩)
      by_cases c1 : k = 1
      · subst c1
        have e1 : (List.replicate (1 : Int).toNat xs).flatten = xs := by simp
        rw [e1] at W
        exact .inr (.inr (.inr (.inl ⟨p, vs, rfl, rfl, h1, W.here S ra⟩)))
      · have e0 : (List.replicate k.toNat xs).flatten = [] := by rw [show k.toNat = 0 by omega]; rfl
        rw [e0] at W
        exact .inr (.inr (.inr (.inr (.inl ⟨p, k, vs, rfl, rfl, h1, ne, hl.2.1, by omega, tup_ok S (show Reps B H μ [] [] from rfl) W⟩))))
    · exact W.not.elim
  · simp only at W
    split at W
    · rename_i s k hl
      cases ra; cases rb
      refine .inr (.inr (.inr (.inr (.inr ⟨_, k, rfl, rfl, hl.1, hl.2.1, by rw [len_s]; exact hl.2.2, W.here S ?_⟩))))
      show V.str (repS (Str.ofString s) k) = .str (Str.ofString (String.ofList (List.replicate k.toNat s.toList).flatten))
      congr 1
      apply of_tl
      show (repS (Str.ofString s) k).cps.toList = _
      unfold repS
      rw [cps_s]
      simp [List.map_flatten, List.map_replicate]
    · exact W.not.elim
  · cases rb
    split at W
    · rename_i hx
      split at W
      · rename_i hl
        obtain ⟨p, vs, rfl, h1, r1⟩ := lst_rep S hx ra
        refine .inr (.inr (.inl ⟨p, _, vs, rfl, rfl, h1, hl.2.1, hl.2.2, by rw [r1.length, line_eq]; exact hl.1, newL_ok S (r1.flat _) W⟩))
      · exact W.not.elim
    · exact W.not.elim
  · split at W
    · rename_i h _ _
      cases h
    · exact W.not.elim
/-- two ints -/
theorem int2 {o : Bo} (ho : o ≠ .add) (ho' : o ≠ .mul) (S : StOk B H μ st) (ra : Rep B H μ a x) (rb : Rep B H μ b y) (W : Wd B H μ repD (bop o m a b st) Q) :
    ∃ i j, x = .int i ∧ y = .int j ∧ ∃ k, bopI o i j = some k ∧ Q (.int k) H := by
  unfold bop at W
  split at W
  · cases ra; cases rb
    refine ⟨_, _, rfl, rfl, ?_⟩
    cases e : bopI o _ _ with
    | none => rw [e] at W; exact W.not.elim
    | some k => rw [e] at W; exact ⟨k, rfl, W.here S rfl⟩
  · split at W
    · exact absurd rfl ho
    · exact W.not.elim
  · split at W
    · exact absurd rfl ho
    · exact W.not.elim
  · split at W
    · exact absurd rfl ho'
    · exact W.not.elim
  · split at W
    · exact absurd rfl ho'
    · exact W.not.elim
  · split at W
    · exact absurd rfl ho'
    · exact W.not.elim
  · split at W
    · exact absurd rfl ho
    · exact W.not.elim
theorem sub_ok (S : StOk B H μ st) (ra : Rep B H μ a x) (rb : Rep B H μ b y) (W : Wd B H μ repD (bop .sub m a b st) Q) : rI0 (fun i j => .int (i - j)) x y H Q := by
  obtain ⟨i, j, h1, h2, k, e, q⟩ := int2 (by decide) (by decide) S ra rb W
  cases e
  exact ⟨i, j, h1, h2, q⟩
theorem div_ok (S : StOk B H μ st) (ra : Rep B H μ a x) (rb : Rep B H μ b y) (W : Wd B H μ repD (bop .div m a b st) Q) : rI CDiv (fun i j => .int (i / j)) x y H Q := by
  obtain ⟨i, j, h1, h2, k, e, q⟩ := int2 (by decide) (by decide) S ra rb W
  unfold bopI at e
  simp only at e
  split at e
  · rename_i hc
    cases e
    exact ⟨i, j, h1, h2, hc, q⟩
  · cases e
theorem mod_ok (S : StOk B H μ st) (ra : Rep B H μ a x) (rb : Rep B H μ b y) (W : Wd B H μ repD (bop .mod m a b st) Q) : rI (fun _ j => 0 < j) (fun i j => .int (i % j)) x y H Q := by
  obtain ⟨i, j, h1, h2, k, e, q⟩ := int2 (by decide) (by decide) S ra rb W
  unfold bopI at e
  simp only at e
  split at e
  · rename_i hc
    cases e
    exact ⟨i, j, h1, h2, hc, q⟩
  · cases e
theorem pow_ok (S : StOk B H μ st) (ra : Rep B H μ a x) (rb : Rep B H μ b y) (W : Wd B H μ repD (bop .pow m a b st) Q) : rI CPow (fun i j => .int (i ^ j.toNat)) x y H Q := by
  obtain ⟨i, j, h1, h2, k, e, q⟩ := int2 (by decide) (by decide) S ra rb W
  unfold bopI at e
  simp only at e
  split at e
  · rename_i hc
    cases e
    exact ⟨i, j, h1, h2, hc, q⟩
  · cases e
theorem shl_ok (S : StOk B H μ st) (ra : Rep B H μ a x) (rb : Rep B H μ b y) (W : Wd B H μ repD (bop .shl m a b st) Q) : rI CPow (fun i j => .int (i * 2 ^ j.toNat)) x y H Q := by
  obtain ⟨i, j, h1, h2, k, e, q⟩ := int2 (by decide) (by decide) S ra rb W
  unfold bopI at e
  simp only at e
  split at e
  · rename_i hc
    cases e
    exact ⟨i, j, h1, h2, hc, q⟩
  · cases e
theorem shr_ok (S : StOk B H μ st) (ra : Rep B H μ a x) (rb : Rep B H μ b y) (W : Wd B H μ repD (bop .shr m a b st) Q) : rI (fun _ j => 0 ≤ j) (fun i j => .int (i / 2 ^ j.toNat)) x y H Q := by
  obtain ⟨i, j, h1, h2, k, e, q⟩ := int2 (by decide) (by decide) S ra rb W
  unfold bopI at e
  simp only at e
  split at e
  · rename_i hc
    cases e
    exact ⟨i, j, h1, h2, hc, q⟩
  · cases e

/-! ### items, parts -/
theorem ixN_eq : @Rx.ixN = @L2.ixN := rfl
theorem atI_eq {α : Type} (xs : List α) (i : Int) : Rx.atI xs i = L2.atI xs i := rfl
theorem atI_rep {xs : List D} {vs : List V} {i : Int} (r : Reps B H μ xs vs) (e : Rx.atI xs i = some d) : ∃ v, L2.atI vs i = some v ∧ Rep B H μ d v := by
  unfold Rx.atI at e
  unfold L2.atI
  rw [r.length]
  show ∃ v, (Rx.ixN xs.length i).bind (fun j => vs[j]?) = some v ∧ _
  cases q : Rx.ixN xs.length i with
  | none => rw [q] at e; cases e
  | some j =>
    rw [q] at e
    obtain ⟨v, h1, h2⟩ := r.get e
    exact ⟨v, h1, h2⟩
theorem sIx_eq : @Rx.sIx = @HT.sIx := rfl
theorem cut_rep {xs : List D} {vs : List V} {lo hi : Option Int} (r : Reps B H μ xs vs) : Reps B H μ (cut xs lo hi) (cutV vs lo hi) := by
  unfold cut cutV
  rw [r.length, ← sIx_eq]
  exact (r.drop _).take _

theorem list_of_len {α : Type} {xs : List α} {n : Nat} (h : xs.length ≤ n) : xs.take n = xs := List.take_of_length_le h
def rSlX (K : PySem.W.Frag) : V → Option Int → Option Int → Hp → VK → Prop := fun x lo hi H Q => rSlA K x lo hi H Q ∨ rSlL K x lo hi H Q ∨ rSlS x lo hi H Q
theorem sl_X {X : Cx} : SlR X (rSlX X.K) := SlR.or sl_tupA (SlR.or sl_list sl_str)
theorem cutS_s (s : String) (lo hi : Option Int) : cutS (Str.ofString s) lo hi = Str.ofString (String.ofList (cut s.toList lo hi)) := by
  apply ext_tl
  rw [tl_s, String.toList_ofList]
  show (((Str.ofString s).cps.toList.drop _).take _) = _
  rw [cps_s, len_s, ← String.length_toList]
  unfold cut
  rw [← sIx_eq, List.map_take, List.map_drop]
theorem sl_ok {lo hi : Option Int} (S : StOk B H μ st) (ra : Rep B H μ a x) (W : Wd B H μ repD (sliV m a lo hi st) Q) : rSlX B.K x lo hi H Q := by
  unfold sliV at W
  split at W
  · rename_i xs
    obtain ⟨p, vs, rfl, h, r⟩ := sqT_of ra
    refine .inl ⟨p, vs, rfl, h, fun hw => ?_, fun _ => ?_⟩
    · have e : cut xs lo hi = xs := by
        unfold cut
        rw [r.length] at hw
        rw [sIx_eq, hw.1, hw.2, List.drop_zero, Nat.sub_zero, List.take_length]
      rw [e] at W
      exact W.here S ra
    · exact tup_ok S (cut_rep r) W
  · rename_i s
    cases ra
    split at W
    · rename_i hl
      exact .inr (.inr ⟨_, rfl, by rw [len_s, line_eq]; exact hl, W.here S (by show _ = _; rw [cutS_s])⟩)
    · exact W.not.elim
  · split at W
    · rename_i xs q
      obtain ⟨p, vs, rfl, h, r⟩ := lro_rep S q ra
      exact .inr (.inl ⟨p, vs, rfl, h, newL_ok S (cut_rep r) W⟩)
    · exact W.not.elim
end
end Rx

set_option Elab.async false
set_option linter.all false
set_option maxRecDepth 100000
set_option maxHeartbeats 2000000
set_option autoImplicit false
namespace Rx
open PySem L2 TL PySem.SeqAt

/-! ### == and != of data -/
mutual
def toP : D → PyData
  | .non => .none
  | .bl b => .bool b
  | .int i => .int i
  | .str s => .str (Str.ofString s)
  | .tup xs => .tuple (toPs xs)
  | .lst xs => .list (toPs xs)
  | _ => .none
def toPs : List D → List PyData
  | [] => []
  | x :: xs => toP x :: toPs xs
end
theorem s_beq (s t : String) : (Str.ofString s == Str.ofString t) = (s == t) := by
  by_cases h : s = t
  · subst h; simp
  · have : Str.ofString s ≠ Str.ofString t := fun e => h (s_inj e)
    rw [beq_eq_false_iff_ne.mpr h, beq_eq_false_iff_ne.mpr this]
theorem strOk_s (s : String) : PyData.strOk (Str.ofString s) = true := by
  unfold PyData.strOk
  rw [← Array.all_toList, cps_s, List.all_eq_true]
  intro n hn
  obtain ⟨c, _, rfl⟩ := List.mem_map.mp hn
  have := c.valid
  simp only [decide_eq_true_eq]
  unfold UInt32.isValidChar Nat.isValidChar at this
  show c.val.toNat < _
  omega
mutual
theorem eq_toP : ∀ a b : D, a.rk < 1000 → b.rk < 1000 → D.eq a b = PyData.eqv (toP a) (toP b)
  | .tup xs, .tup ys, h, h' => by
    simp only [D.eq, toP, PyData.eqv]
    exact eqAll_toP xs ys (by simp only [D.rk] at h; omega) (by simp only [D.rk] at h'; omega)
  | .lst xs, .lst ys, h, h' => by
    simp only [D.eq, toP, PyData.eqv]
    exact eqAll_toP xs ys (by simp only [D.rk] at h; omega) (by simp only [D.rk] at h'; omega)
  | .str s, .str t, _, _ => by
    simp only [D.eq, toP, PyData.eqv]
    rw [s_beq]
  | .ro _, b, h, _ => by simp [D.rk] at h
  | .dct _ _, b, h, _ => by simp [D.rk] at h
  | .loc _, b, h, _ => by simp [D.rk] at h
  | .non, b, _, h => by cases b <;> first | rfl | (simp [D.rk] at h)
  | .bl _, b, _, h => by cases b <;> first | rfl | (simp [D.rk] at h)
  | .int _, b, _, h => by cases b <;> first | rfl | (simp [D.rk] at h)
  | .str _, .non, _, _ => rfl
  | .str _, .bl _, _, _ => rfl
  | .str _, .int _, _, _ => rfl
  | .str _, .tup _, _, _ => rfl
  | .str _, .lst _, _, _ => rfl
  | .str _, .ro _, _, h => by simp [D.rk] at h
  | .str _, .dct _ _, _, h => by simp [D.rk] at h
  | .str _, .loc _, _, h => by simp [D.rk] at h
  | .tup _, .non, _, _ => rfl
  | .tup _, .bl _, _, _ => rfl
  | .tup _, .int _, _, _ => rfl
  | .tup _, .str _, _, _ => rfl
  | .tup _, .lst _, _, _ => rfl
  | .tup _, .ro _, _, h => by simp [D.rk] at h
  | .tup _, .dct _ _, _, h => by simp [D.rk] at h
  | .tup _, .loc _, _, h => by simp [D.rk] at h
  | .lst _, .non, _, _ => rfl
  | .lst _, .bl _, _, _ => rfl
  | .lst _, .int _, _, _ => rfl
  | .lst _, .str _, _, _ => rfl
  | .lst _, .tup _, _, _ => rfl
  | .lst _, .ro _, _, h => by simp [D.rk] at h
  | .lst _, .dct _ _, _, h => by simp [D.rk] at h
  | .lst _, .loc _, _, h => by simp [D.rk] at h
theorem eqAll_toP : ∀ xs ys : List D, D.rkAll xs < 1000 → D.rkAll ys < 1000 → D.eqAll xs ys = PyData.eqvAll (toPs xs) (toPs ys)
  | [], [], _, _ => rfl
  | [], _ :: _, _, _ => rfl
  | _ :: _, [], _, _ => rfl
  | x :: xs, y :: ys, h, h' => by
    simp only [D.eqAll, toPs, PyData.eqvAll]
    simp only [D.rkAll] at h h'
    rw [eq_toP x y (by omega) (by omega), eqAll_toP xs ys (by omega) (by omega)]
end
mutual
theorem depth_toP : ∀ a : D, (toP a).depth ≤ a.rk
  | .non => Nat.le_refl _
  | .bl _ => Nat.le_refl _
  | .int _ => Nat.le_refl _
  | .str _ => Nat.le_refl _
  | .tup xs => by
    have := depth_toPs xs
    simp only [toP, PyData.depth, D.rk]
    omega
  | .lst xs => by
    have := depth_toPs xs
    simp only [toP, PyData.depth, D.rk]
    omega
  | .ro _ => Nat.zero_le _
  | .dct _ _ => Nat.zero_le _
  | .loc _ => Nat.zero_le _
theorem depth_toPs : ∀ xs : List D, PyData.depthAll (toPs xs) ≤ D.rkAll xs
  | [] => Nat.le_refl _
  | x :: xs => by
    have h1 := depth_toP x
    have h2 := depth_toPs xs
    simp only [toPs, PyData.depthAll, D.rkAll]
    omega
end
mutual
theorem lay_toP : ∀ a : D, (toP a).canLay0 = true
  | .non => rfl
  | .bl _ => rfl
  | .int _ => rfl
  | .str s => by simp only [toP, PyData.canLay0]; exact strOk_s s
  | .tup xs => by simp only [toP, PyData.canLay0]; exact lay_toPs xs
  | .lst xs => by simp only [toP, PyData.canLay0]; exact lay_toPs xs
  | .ro _ => rfl
  | .dct _ _ => rfl
  | .loc _ => rfl
theorem lay_toPs : ∀ xs : List D, PyData.canLayAll0 (toPs xs) = true
  | [] => rfl
  | x :: xs => by
    simp only [toPs, PyData.canLayAll0]
    rw [lay_toP x, lay_toPs xs]; rfl
end
section
variable {K : PySem.W.Frag} {H : Hp}
mutual
theorem dp_of : ∀ (a : D) (x : V), a.rk < 1000 → Re K H a x → Dp K H x (toP a)
  | .non, _, _, r => by cases r; exact .non
  | .bl b, _, _, r => by cases r; exact .bl b
  | .int i, _, _, r => by cases r; exact .int i
  | .str s, _, _, r => by cases r; exact .str _
  | .tup xs, _, h, r => by
    obtain ⟨p, vs, rfl, hs, r⟩ := r
    exact .tup hs (dps_of xs vs (by simp only [D.rk] at h; omega) r)
  | .lst xs, _, h, r => by
    obtain ⟨p, vs, rfl, hs, r⟩ := r
    exact .lst hs (dps_of xs vs (by simp only [D.rk] at h; omega) r)
  | .ro _, _, h, _ => by simp [D.rk] at h
  | .dct _ _, _, h, _ => by simp [D.rk] at h
  | .loc _, _, h, _ => by simp [D.rk] at h
theorem dps_of : ∀ (xs : List D) (vs : List V), D.rkAll xs < 1000 → Rq K H xs vs → DpAll K H vs (toPs xs)
  | [], _, _, r => by cases r; exact .nil
  | x :: xs, _, h, r => by
    obtain ⟨v, vs, rfl, r1, r2⟩ := r
    simp only [D.rkAll] at h
    exact .cons (dp_of x v (by omega) r1) (dps_of xs vs (by omega) r2)
end
end
/-- a value for ==: one of the six kinds -/
inductive Sh (h : Heap) : D → Value → Prop where
  | non : Sh h .non .none
  | bl (b : Bool) : Sh h (.bl b) (.bool b)
  | int (i : Int) (t : Tok) : Sh h (.int i) (.int i t)
  | str (s : String) (t : Tok) : Sh h (.str s) (.str (Str.ofString s) t)
  | tup {xs : List D} {a : Addr} {its : Array Value} (e : h.IsTuple a its) (n : its.size = xs.length) : Sh h (.tup xs) (.ref a)
  | lst {xs : List D} {a : Addr} {its : Array Value} (e : h.IsList a its) (n : its.size = xs.length) : Sh h (.lst xs) (.ref a)
theorem sh_of {X : Cx} {pins : List (Addr × Obj)} {σ : L2.St} {H : Hp} {s : Shared} {a : D} {x : V} {v : Value} (I : Inv X pins σ H s) (hc : cmpb a = true) (r : Re X.K H a x) (rv : RelV x v) : Sh s.heap a v := by
  cases a with
  | non => cases r; cases rv; exact .non
  | bl b => cases r; cases rv; exact .bl b
  | int i => cases r; obtain ⟨t, rfl⟩ := rv; exact .int i t
  | str i => cases r; obtain ⟨t, rfl⟩ := rv; exact .str i t
  | tup xs =>
    obtain ⟨p, vs, rfl, hs, r⟩ := r
    cases rv
    obtain ⟨its, r2, ⟨o, ho, hc, n, hd⟩, _⟩ := I.tuple hs
    exact .tup ⟨o, ho, hc, n, hd⟩ (by rw [List.size_toArray, ← r2.length, r.length])
  | lst xs =>
    obtain ⟨p, vs, rfl, hs, r⟩ := r
    cases rv
    obtain ⟨its, r2, ⟨o, n, ho, hc, _, hd⟩, _⟩ := I.list hs
    exact .lst ⟨o, ho, hc, n, hd⟩ (by rw [List.size_toArray, ← r2.length, r.length])
  | ro _ => cases hc
  | dct _ _ => cases hc
  | loc _ => cases hc

/-- eq where one of the two is a scalar or nothing -/
theorem eq_sh {A : Around} {s : Shared} {a b : D} {u v : Value} (hu : A.units + 200 < cLine) (ha : Sh s.heap a u) (hb : Sh s.heap b v) (hs : scal a = true ∨ scal b = true ∨ isNil b = true) : RcAt A s u v (D.eq a b) := by
  have h0 : A.units < cLine := by omega
  cases ha with
  | non =>
    cases hb with
    | non => exact RcAt.none_none
    | bl y => exact RcAt.none_bool y
    | int y t => exact RcAt.none_int y t
    | str y t => exact RcAt.none_str _ t
    | tup e n => exact RcAt.none_tuple e h0
    | lst e n => exact RcAt.none_list e h0
  | bl x =>
    cases hb with
    | non => exact RcAt.bool_none x
    | bl y => exact RcAt.bool_bool x y
    | int y t => exact RcAt.bool_int x y t
    | str y t => exact RcAt.bool_str x _ t
    | tup e n => exact RcAt.bool_tuple x e h0
    | lst e n => exact RcAt.bool_list x e h0
  | int x t' =>
    cases hb with
    | non => exact RcAt.int_none x t'
    | bl y => exact RcAt.int_bool x t' y
    | int y t => exact RcAt.int_int x t' y t
    | str y t => exact RcAt.int_str x t' _ t
    | tup e n => exact RcAt.int_tuple x t' e h0
    | lst e n => exact RcAt.int_list x t' e h0
  | str x t' =>
    cases hb with
    | non => exact RcAt.str_none _ t'
    | bl y => exact RcAt.str_bool _ t' y
    | int y t => exact RcAt.str_int _ t' y t
    | str y t =>
      have q := @RcAt.str_str A s (Str.ofString x) t' (Str.ofString y) t
      rw [s_beq] at q
      exact q
    | tup e n => exact RcAt.str_tuple _ t' e h0
    | lst e n => exact RcAt.str_list _ t' e h0
  | @tup xs p its e n =>
    cases hb with
    | non => exact RcAt.tuple_none e h0
    | bl y => exact RcAt.tuple_bool y e h0
    | int y t => exact RcAt.tuple_int y t e h0
    | str y t => exact RcAt.tuple_str _ t e h0
    | lst e' n' => exact RcAt.tuple_list e e' h0
    | @tup ys q its' e' n' =>
      have hy : ys = [] := by
        rcases hs with z | z | z
        · cases z
        · cases z
        · cases ys with
          | nil => rfl
          | cons _ _ => cases z
      subst hy
      have z : its'.size = 0 := n'
      have k := @RcAt.tuples A s p q its its' (fun _ => true) e e' h0 (fun j _ h2 => absurd h2 (by omega))
      have d : D.eq (.tup xs) (.tup []) = ((List.range (min its.size its'.size)).all (fun _ => true) && its.size == its'.size) := by
        rw [z, n, Nat.min_zero]
        cases xs <;> rfl
      rw [d]
      exact k
  | @lst xs p its e n =>
    cases hb with
    | non => exact RcAt.list_none e h0
    | bl y => exact RcAt.list_bool y e h0
    | int y t => exact RcAt.list_int y t e h0
    | str y t => exact RcAt.list_str _ t e h0
    | tup e' n' => exact RcAt.list_tuple e e' h0
    | @lst ys q its' e' n' =>
      have hy : ys = [] := by
        rcases hs with z | z | z
        · cases z
        · cases z
        · cases ys with
          | nil => rfl
          | cons _ _ => cases z
      subst hy
      have z : its'.size = 0 := n'
      by_cases hx : xs = []
      · subst hx
        have z2 : its.size = 0 := n
        have k := @RcAt.lists A s p q its its' (fun _ => true) e e' (by omega) h0 (fun j _ h2 => absurd h2 (by omega))
        rw [z2] at k
        exact k
      · have k := @RcAt.lists_lengths A s p q its its' e e' (by
          have : xs.length ≠ 0 := fun q => hx (List.length_eq_zero_iff.mp q)
          simp only [bne_iff_ne]; omega) h0
        have d : D.eq (.lst xs) (.lst []) = false := by
          cases xs with
          | nil => exact absurd rfl hx
          | cons _ _ => rfl
        rw [d]
        exact k
def rEqX (K : PySem.W.Frag) : R2 := fun x y H Q => ∃ (a b : D), Re K H a x ∧ Re K H b y ∧ okEq a b = true ∧ Q (.bl (D.eq a b)) H
theorem op_eqX {X : Cx} (hu : X.A.units + 200 < cLine) : OpR X (compareOp .Eq) (rEqX X.K) := by
  intro pins s σ H x y v u Q I rx ry h
  obtain ⟨a, b, ra, rb, ok, q⟩ := h
  have fin : RcAt X.A s v u (D.eq a b) → wpAny (model X.prog X.w) X.A (compareOp .Eq v u) (EP X pins σ Q) X.xe s := fun k => k X.prog X.w X.xe _ ⟨.bl _, H, I, rfl, q⟩
  unfold okEq at ok
  rw [Bool.or_eq_true, Bool.or_eq_true, Bool.or_eq_true] at ok
  rcases ok with ((ok | ok) | ok) | ok
  · rw [Bool.and_eq_true] at ok
    exact fin (eq_sh hu (sh_of I (by cases a <;> first | rfl | cases ok.1) ra rx) (sh_of I ok.2 rb ry) (.inl ok.1))
  · rw [Bool.and_eq_true] at ok
    exact fin (eq_sh hu (sh_of I ok.2 ra rx) (sh_of I (by cases b <;> first | rfl | cases ok.1) rb ry) (.inr (.inl ok.1)))
  · rw [Bool.and_eq_true] at ok
    exact fin (eq_sh hu (sh_of I ok.2 ra rx) (sh_of I (by cases b <;> first | rfl | cases ok.1) rb ry) (.inr (.inr ok.1)))
  · rw [Bool.and_eq_true, decide_eq_true_eq, decide_eq_true_eq] at ok
    have da := dp_of a x (by omega) ra
    have db := dp_of b y (by omega) rb
    obtain ⟨as, r1⟩ := Dp.reads I _ x v da rx
    obtain ⟨bs, r2⟩ := Dp.reads I _ y u db ry
    rw [eq_toP a b (by omega) (by omega)] at fin
    have d1 := depth_toP a
    exact fin (rcAt_reads r1 r2 (lay_toP a) (lay_toP b) (by omega))

/-- ne where one of the two is a scalar or nothing -/
theorem ne_sh {A : Around} {s : Shared} {a b : D} {u v : Value} (hu : A.units + 200 < cLine) (ha : Sh s.heap a u) (hb : Sh s.heap b v) (hs : scal a = true ∨ scal b = true ∨ isNil b = true) : RcNeAt A s u v (!(D.eq a b)) := by
  have h0 : A.units < cLine := by omega
  cases ha with
  | non =>
    cases hb with
    | non => exact RcNeAt.none_none
    | bl y => exact RcNeAt.none_bool y
    | int y t => exact RcNeAt.none_int y t
    | str y t => exact RcNeAt.none_str _ t
    | tup e n => exact RcNeAt.none_tuple e h0
    | lst e n => exact RcNeAt.none_list e h0
  | bl x =>
    cases hb with
    | non => exact RcNeAt.bool_none x
    | bl y => exact RcNeAt.bool_bool x y
    | int y t => exact RcNeAt.bool_int x y t
    | str y t => exact RcNeAt.bool_str x _ t
    | tup e n => exact RcNeAt.bool_tuple x e h0
    | lst e n => exact RcNeAt.bool_list x e h0
  | int x t' =>
    cases hb with
    | non => exact RcNeAt.int_none x t'
    | bl y => exact RcNeAt.int_bool x t' y
    | int y t => exact RcNeAt.int_int x t' y t
    | str y t => exact RcNeAt.int_str x t' _ t
    | tup e n => exact RcNeAt.int_tuple x t' e h0
    | lst e n => exact RcNeAt.int_list x t' e h0
  | str x t' =>
    cases hb with
    | non => exact RcNeAt.str_none _ t'
    | bl y => exact RcNeAt.str_bool _ t' y
    | int y t => exact RcNeAt.str_int _ t' y t
    | str y t =>
      have q := @RcNeAt.str_str A s (Str.ofString x) t' (Str.ofString y) t
      first | rw [s_beq] at q | (unfold bne at q; rw [s_beq] at q)
      exact q
    | tup e n => exact RcNeAt.str_tuple _ t' e h0
    | lst e n => exact RcNeAt.str_list _ t' e h0
  | @tup xs p its e n =>
    cases hb with
    | non => exact RcNeAt.tuple_none e h0
    | bl y => exact RcNeAt.tuple_bool y e h0
    | int y t => exact RcNeAt.tuple_int y t e h0
    | str y t => exact RcNeAt.tuple_str _ t e h0
    | lst e' n' => exact RcNeAt.tuple_list e e' h0
    | @tup ys q its' e' n' =>
      have hy : ys = [] := by
        rcases hs with z | z | z
        · cases z
        · cases z
        · cases ys with
          | nil => rfl
          | cons _ _ => cases z
      subst hy
      have z : its'.size = 0 := n'
      have k := @RcNeAt.tuples A s p q its its' (fun _ => true) e e' h0 (fun j _ h2 => absurd h2 (by omega))
      have d : D.eq (.tup xs) (.tup []) = ((List.range (min its.size its'.size)).all (fun _ => true) && its.size == its'.size) := by
        rw [z, n, Nat.min_zero]
        cases xs <;> rfl
      rw [d]
      exact k
  | @lst xs p its e n =>
    cases hb with
    | non => exact RcNeAt.list_none e h0
    | bl y => exact RcNeAt.list_bool y e h0
    | int y t => exact RcNeAt.list_int y t e h0
    | str y t => exact RcNeAt.list_str _ t e h0
    | tup e' n' => exact RcNeAt.list_tuple e e' h0
    | @lst ys q its' e' n' =>
      have hy : ys = [] := by
        rcases hs with z | z | z
        · cases z
        · cases z
        · cases ys with
          | nil => rfl
          | cons _ _ => cases z
      subst hy
      have z : its'.size = 0 := n'
      by_cases hx : xs = []
      · subst hx
        have z2 : its.size = 0 := n
        have k := @RcNeAt.lists A s p q its its' (fun _ => true) e e' (by omega) h0 (fun j _ h2 => absurd h2 (by omega))
        rw [z2] at k
        exact k
      · have k := @RcNeAt.lists_lengths A s p q its its' e e' (by
          have : xs.length ≠ 0 := fun q => hx (List.length_eq_zero_iff.mp q)
          simp only [bne_iff_ne]; omega) h0
        have d : D.eq (.lst xs) (.lst []) = false := by
          cases xs with
          | nil => exact absurd rfl hx
          | cons _ _ => rfl
        rw [d]
        exact k
def rNeX (K : PySem.W.Frag) : R2 := fun x y H Q => ∃ (a b : D), Re K H a x ∧ Re K H b y ∧ okEq a b = true ∧ Q (.bl (!(D.eq a b))) H
theorem op_neX {X : Cx} (hu : X.A.units + 200 < cLine) : OpR X (compareOp .NotEq) (rNeX X.K) := by
  intro pins s σ H x y v u Q I rx ry h
  obtain ⟨a, b, ra, rb, ok, q⟩ := h
  have fin : RcNeAt X.A s v u (!(D.eq a b)) → wpAny (model X.prog X.w) X.A (compareOp .NotEq v u) (EP X pins σ Q) X.xe s := fun k => k X.prog X.w X.xe _ ⟨.bl _, H, I, rfl, q⟩
  unfold okEq at ok
  rw [Bool.or_eq_true, Bool.or_eq_true, Bool.or_eq_true] at ok
  rcases ok with ((ok | ok) | ok) | ok
  · rw [Bool.and_eq_true] at ok
    exact fin (ne_sh hu (sh_of I (by cases a <;> first | rfl | cases ok.1) ra rx) (sh_of I ok.2 rb ry) (.inl ok.1))
  · rw [Bool.and_eq_true] at ok
    exact fin (ne_sh hu (sh_of I ok.2 ra rx) (sh_of I (by cases b <;> first | rfl | cases ok.1) rb ry) (.inr (.inl ok.1)))
  · rw [Bool.and_eq_true] at ok
    exact fin (ne_sh hu (sh_of I ok.2 ra rx) (sh_of I (by cases b <;> first | rfl | cases ok.1) rb ry) (.inr (.inr ok.1)))
  · rw [Bool.and_eq_true, decide_eq_true_eq, decide_eq_true_eq] at ok
    have da := dp_of a x (by omega) ra
    have db := dp_of b y (by omega) rb
    obtain ⟨as, r1⟩ := Dp.reads I _ x v da rx
    obtain ⟨bs, r2⟩ := Dp.reads I _ y u db ry
    rw [eq_toP a b (by omega) (by omega)] at fin
    have d1 := depth_toP a
    exact fin (rcNeAt_reads r1 r2 (lay_toP a) (lay_toP b) (by omega))
end Rx

set_option Elab.async false
set_option linter.all false
set_option maxRecDepth 100000
set_option maxHeartbeats 2000000
set_option autoImplicit false
namespace Rx
open PySem L2 TL

section
variable {B : Bg} {H : Hp} {μ : List Addr} {st : Store} {a b d : D} {x y : V} {Q : VK} {m : Bool} {xs ys : List D}
/-! ### comparisons -/
theorem Wd.of {o : Option D} {Q : VK} (W : Wd B H μ repD (Res.of o st) Q) : ∃ d, o = some d ∧ Wd B H μ repD (.ok d st) Q := by
  cases o with
  | none => exact W.not.elim
  | some d => exact ⟨d, rfl, W⟩
theorem Wd.ofB {o : Option Bool} {Q : VK} (S : StOk B H μ st) (W : Wd B H μ repD (Res.of (o.map D.bl) st) Q) : ∃ k, o = some k ∧ Q (.bl k) H := by
  cases o with
  | none => exact W.not.elim
  | some d => exact ⟨d, rfl, W.here S rfl⟩
theorem scal_flat (h : scal a = true) (r : Rep B H μ a x) : flatV x = true := by
  cases a <;> first | (cases h; done) | (cases r; rfl)
theorem eqV_eq (ha : scal a = true) (hb : scal b = true) (ra : Rep B H μ a x) (rb : Rep B H μ b y) : eqV x y = D.eq a b := by
  cases a <;> first | (cases ha; done) | (cases ra; cases b <;> first | (cases hb; done) | (cases rb; first | rfl | (simp only [eqV, D.eq]; exact s_beq _ _)))
theorem any_eqV (hx : scal a = true) (rx : Rep B H μ a x) : ∀ {xs : List D} {vs : List V}, xs.all scal = true → Reps B H μ xs vs → inV x vs = isIn a xs ∧ vs.all flatV = true
  | [], _, _, r => by cases r; exact ⟨rfl, rfl⟩
  | d :: ds, _, h, r => by
    obtain ⟨v, vs, rfl, r1, r2⟩ := r
    rw [List.all_cons, Bool.and_eq_true] at h
    obtain ⟨q1, q2⟩ := any_eqV hx rx h.2 r2
    refine ⟨?_, by rw [List.all_cons, scal_flat h.1 r1, q2]; rfl⟩
    unfold inV isIn at *
    rw [List.any_cons, List.any_cons, q1, eqV_eq h.1 hx r1 rx]
/-- x in, not in: a sign of a text, an item of a list or tuple, a key -/
def rSgn (neg : Bool) : R2 := fun x y H Q => ∃ (c : Nat) (z : Str), x = .str ⟨#[c]⟩ ∧ y = .str z ∧ Q (.bl (if neg then !decide (c ∈ z.cps.toList) else decide (c ∈ z.cps.toList))) H
def rKey (neg : Bool) : R2 := fun x y H Q => ∃ a o, y = .ref a ∧ DGet H a x o ∧ Q (.bl (if neg then !o.isSome else o.isSome)) H
def rInX (K : PySem.W.Frag) (neg : Bool) : R2 := fun x y H Q => rSgn neg x y H Q ∨ rIn K neg x y H Q ∨ rKey neg x y H Q
theorem op_inX {X : Cx} (hu : X.A.units + 200 < cLine) : OpR X (compareOp .In) (rInX X.K false) := by
  refine OpR.or op_in_sign (OpR.or op_in_seq ?_)
  intro pins s σ H x y v u Q I rx ry h
  obtain ⟨a, o, rfl, g, q⟩ := h
  cases ry
  exact d_in (by omega) I g rx fun s' I' => ⟨.bl _, H, I', rfl, q⟩
theorem op_notInX {X : Cx} (hu : X.A.units + 200 < cLine) : OpR X (compareOp .NotIn) (rInX X.K true) := by
  refine OpR.or op_notIn_sign (OpR.or op_notIn_seq ?_)
  intro pins s σ H x y v u Q I rx ry h
  obtain ⟨a, o, rfl, g, q⟩ := h
  cases ry
  exact d_notIn (by omega) I g rx fun s' I' => ⟨.bl _, H, I', rfl, q⟩
theorem mem_sign {c : Char} {t : String} : decide (c.toNat ∈ (Str.ofString t).cps.toList) = t.toList.contains c := by
  rw [cps_s]
  by_cases h : c ∈ t.toList
  · rw [List.contains_iff_mem.mpr h, decide_eq_true (List.mem_map.mpr ⟨c, h, rfl⟩)]
  · have : ¬ c.toNat ∈ t.toList.map Char.toNat := fun hm => by
      obtain ⟨c', h1, h2⟩ := List.mem_map.mp hm
      exact h (char_inj h2 ▸ h1)
    rw [decide_eq_false this]
    have h2 : ¬ t.toList.contains c = true := fun q => h (List.contains_iff_mem.mp q)
    simpa using h2
theorem kyOf_rep {k : Ky} (e : kyOf a = some k) (r : Rep B H μ a x) : x = kV (kyK k) := by
  cases a <;> simp only [kyOf] at e <;> first | (cases e; done) | (cases e; cases r; rfl)
theorem kyK_inj {j k : Ky} (h : kyK j = kyK k) : j = k := by
  cases j <;> cases k
  · cases h; rfl
  · cases h
  · cases h
  · rename_i x y
    have h' : Str.ofString x = Str.ofString y := Sum.inr.inj h
    rw [s_inj h']
/-- what a dict holds at a key -/
theorem look_rep {k : Ky} : ∀ {ks : List Ky} {vs : List D} {kvs : List (Key × V)}, kvs.map Prod.fst = ks.map kyK → Reps B H μ vs (kvs.map Prod.snd) →
    (lookK ks vs k = none ∧ valV kvs (kyK k) = none) ∨ ∃ d v, lookK ks vs k = some d ∧ valV kvs (kyK k) = some v ∧ Rep B H μ d v
  | [], vs, [], _, _ => .inl ⟨rfl, rfl⟩
  | [], _, _ :: _, h, _ => by cases h
  | _ :: _, _, [], h, _ => by cases h
  | k' :: ks, [], p :: kvs, h, r => by cases r
  | k' :: ks, d :: ds, p :: kvs, h, r => by
    rw [List.map_cons, List.map_cons] at h
    injection h with h1 h2
    rw [List.map_cons] at r
    obtain ⟨v, vs, e, r1, r2⟩ := r
    injection e with e1 e2
    subst e1 e2
    by_cases hk : k' = k
    · subst hk
      exact .inr ⟨d, p.2, by simp [lookK], valV_pos h1, r1⟩
    · have q : ¬ p.1 = kyK k := fun z => hk (kyK_inj (h1.symm.trans z))
      have q2 : lookK (k' :: ks) (d :: ds) k = lookK ks ds k := by simp [lookK, hk]
      rw [q2, valV_neg q]
      exact look_rep h2 r2
theorem dct_rep {ks : List Ky} {vs : List D} (S : StOk B H μ st) (e : dctOf st a = some (ks, vs)) (r : Rep B H μ a x) : ∃ p kvs, x = .ref p ∧ H p = some (.dK kvs) ∧ kvs.map Prod.fst = ks.map kyK ∧ Reps B H μ vs (kvs.map Prod.snd) := by
  cases a <;> simp only [dctOf] at e <;> try (cases e; done)
  · cases e
    obtain ⟨p, kvs, rfl, ⟨_, h⟩, hk, r⟩ := r
    exact ⟨p, kvs, rfl, h, hk, r⟩
  · obtain ⟨p, rfl, h⟩ := r
    split at e
    · rename_i q
      cases e
      obtain ⟨a, h', c⟩ := S.of q
      rw [h] at h'; cases h'
      obtain ⟨kvs, h2, hk, r⟩ := c
      exact ⟨p, kvs, rfl, h2, hk, r⟩
    · cases e
/-! ### == of dicts -/
/-- eq of data, as the library has it -/
theorem eqAt_D {X : Cx} {pins : List (Addr × Obj)} {σ : L2.St} {s : Shared} {A : Around} {u v : Value} (I : Inv X pins σ H s) (hu : A.units + 150 < cLine) (ra : Re X.K H a x) (rb : Re X.K H b y) (rx : RelV x u) (ry : RelV y v) (ha : a.rk ≤ 150) (hb : b.rk ≤ 150) : PySem.SeqAt.EqAt A s u v (D.eq a b) := by
  have da := dp_of a x (by omega) ra
  have db := dp_of b y (by omega) rb
  obtain ⟨as, r1⟩ := Dp.reads I _ x u da rx
  obtain ⟨bs, r2⟩ := Dp.reads I _ y v db ry
  rw [eq_toP a b (by omega) (by omega)]
  have d1 := depth_toP a
  exact PySem.SeqAt.eqAt_reads _ _ A s u v as bs r1 r2 (lay_toP a) (lay_toP b) (by omega)
theorem rk_mem {n : Nat} : ∀ {vs : List D} {d : D}, D.rkAll vs ≤ n → d ∈ vs → d.rk ≤ n
  | v :: vs, d, h, hm => by
    simp only [D.rkAll] at h
    rcases List.mem_cons.mp hm with z | z
    · subst z; omega
    · exact rk_mem (vs := vs) (by omega) z
theorem lookK_mem {k : Ky} : ∀ {ks : List Ky} {vs : List D} {d : D}, lookK ks vs k = some d → d ∈ vs
  | [], _, _, h => by simp [lookK] at h
  | _ :: _, [], _, h => by simp [lookK] at h
  | k' :: ks, v :: vs, d, h => by
    unfold lookK at h
    split at h
    · cases h; exact List.mem_cons_self
    · exact List.mem_cons_of_mem _ (lookK_mem h)
theorem hits_D {X : Cx} {pins : List (Addr × Obj)} {σ : L2.St} {s : Shared} {A : Around} {ks' : List Ky} {vs' : List D} {lvs : List (Key × V)} {vb : List (Key × Value)} (I : Inv X pins σ H s) (hu : A.units + 150 < cLine) (hB : B.K = X.K) (rb : KV lvs vb) (hk' : lvs.map Prod.fst = ks'.map kyK)
    (r' : Reps B H μ vs' (lvs.map Prod.snd)) (h' : D.rkAll vs' ≤ 150) : ∀ {ks : List Ky} {vs : List D} {kvs : List (Key × V)} {va : List (Key × Value)}, KV kvs va → kvs.map Prod.fst = ks.map kyK → Reps B H μ vs (kvs.map Prod.snd) → D.rkAll vs ≤ 150 →
    PySem.W.KeqHits A s vb va (dctAll ks vs ks' vs')
  | [], vs, [], va, ra, _, _, _ => by cases ra; exact .nil
  | [], _, _ :: _, _, _, h, _, _ => by cases h
  | _ :: _, _, [], _, _, h, _, _ => by cases h
  | k :: ks, [], p :: kvs, va, _, _, r, _ => by cases r
  | k :: ks, d :: ds, p :: kvs, va, ra, h, r, hr => by
    rw [List.map_cons, List.map_cons] at h
    injection h with h1 h2
    rw [List.map_cons] at r
    obtain ⟨v, vs, e, r1, r2⟩ := r
    injection e with e1 e2
    subst e1 e2
    unfold KV at ra
    cases ra with
    | cons hq t =>
      rename_i q qs
      obtain ⟨q1, q2⟩ := hq
      obtain ⟨qk, qv⟩ := q
      simp only [D.rkAll] at hr
      have ih := hits_D I hu hB rb hk' r' h' (ks := ks) (vs := ds) (kvs := kvs) (va := qs) t h2 r2 (by omega)
      have q1' : kyK k = qk := h1.symm.trans q1
      subst q1'
      have rv : RelO (valV lvs (kyK k)) (valueAt vb (kyK k)) := rb.val (kyK k)
      unfold dctAll
      rcases look_rep (k := k) hk' r' with ⟨l1, l2⟩ | ⟨f, w, l1, l2, l3⟩
      · rw [l1]
        rw [l2] at rv
        have hn : valueAt vb (kyK k) = none := by
          cases z : valueAt vb (kyK k) with
          | none => rfl
          | some _ => rw [z] at rv; cases rv
        exact .miss hn
      · rw [l1]
        rw [l2] at rv
        obtain ⟨y, hy, ry⟩ := rv.some_of
        exact .hit hy (eqAt_D I hu (hB ▸ re_of d p.2 r1) (hB ▸ re_of f w l3) q2 ry (by omega) (rk_mem h' (lookK_mem l1))) ih
def rEqD (K : PySem.W.Frag) (neg : Bool) : R2 := fun x y H Q => ∃ (B : Bg) (μ : List Addr) (a b : Addr) (kvs lvs : List (Key × V)) (ks ks' : List Ky) (vs vs' : List D), B.K = K ∧ x = .ref a ∧ y = .ref b ∧ H a = some (.dK kvs) ∧ H b = some (.dK lvs) ∧ kvs.map Prod.fst = ks.map kyK ∧ lvs.map Prod.fst = ks'.map kyK ∧
  Reps B H μ vs (kvs.map Prod.snd) ∧ Reps B H μ vs' (lvs.map Prod.snd) ∧ D.rkAll vs ≤ 150 ∧ D.rkAll vs' ≤ 150 ∧ Q (.bl (if neg then !dctEq ks vs ks' vs' else dctEq ks vs ks' vs')) H
theorem op_eqD {X : Cx} (hu : X.A.units + 200 < cLine) : OpR X (compareOp .Eq) (rEqD X.K false) := by
  intro pins s σ H x y v u Q I rx ry h
  obtain ⟨B, μ, a, b, kvs, lvs, ks, ks', vs, vs', hB, rfl, rfl, ea, eb, hk, hk', r, r', h1, h2, q⟩ := h
  obtain rfl : v = Value.ref a := rx
  obtain rfl : u = Value.ref b := ry
  obtain ⟨_, ya, va, ra, da⟩ := (show ObjOk X.prog X.w H s.heap a (.dK kvs) from I.hok a _ ea)
  obtain ⟨_, yb, vb, rb, db⟩ := (show ObjOk X.prog X.w H s.heap b (.dK lvs) from I.hok b _ eb)
  have l1 : va.length = ks.length := by rw [← ra.length, ← List.length_map (f := Prod.fst), hk, List.length_map]
  have l2 : vb.length = ks'.length := by rw [← rb.length, ← List.length_map (f := Prod.fst), hk', List.length_map]
  exact PySem.W.keq_eq (knd := mixKind X.prog X.w) (r := dctAll ks vs ks' vs') ya yb da db (by omega) (fun _ => hits_D I (by show X.A.units + 1 + 150 < _; omega) hB rb hk' r' h2 ra hk r h1) (fin_bl I q (by simp only [dctEq, l1, l2]; rfl))
theorem op_neD {X : Cx} (hu : X.A.units + 200 < cLine) : OpR X (compareOp .NotEq) (rEqD X.K true) := by
  intro pins s σ H x y v u Q I rx ry h
  obtain ⟨B, μ, a, b, kvs, lvs, ks, ks', vs, vs', hB, rfl, rfl, ea, eb, hk, hk', r, r', h1, h2, q⟩ := h
  obtain rfl : v = Value.ref a := rx
  obtain rfl : u = Value.ref b := ry
  obtain ⟨_, ya, va, ra, da⟩ := (show ObjOk X.prog X.w H s.heap a (.dK kvs) from I.hok a _ ea)
  obtain ⟨_, yb, vb, rb, db⟩ := (show ObjOk X.prog X.w H s.heap b (.dK lvs) from I.hok b _ eb)
  have l1 : va.length = ks.length := by rw [← ra.length, ← List.length_map (f := Prod.fst), hk, List.length_map]
  have l2 : vb.length = ks'.length := by rw [← rb.length, ← List.length_map (f := Prod.fst), hk', List.length_map]
  exact PySem.W.keq_ne (knd := mixKind X.prog X.w) (r := dctAll ks vs ks' vs') ya yb da db (by omega) (fun _ => hits_D I (by show X.A.units + 1 + 150 < _; omega) hB rb hk' r' h2 ra hk r h1) (fin_bl I q (by simp only [dctEq, l1, l2]; rfl))
def rEqX2 (K : PySem.W.Frag) : R2 := fun x y H Q => rEqX K x y H Q ∨ rEqD K false x y H Q
def rNeX2 (K : PySem.W.Frag) : R2 := fun x y H Q => rNeX K x y H Q ∨ rEqD K true x y H Q
theorem eqB_ok {k : Bool} (S : StOk B H μ st) (ra : Rep B H μ a x) (rb : Rep B H μ b y) (e : eqB a b st = some k) :
    (∀ Q : VK, Q (.bl k) H → rEqX2 B.K x y H Q) ∧ (∀ Q : VK, Q (.bl (!k)) H → rNeX2 B.K x y H Q) := by
  unfold eqB at e
  split at e
  · rename_i h
    cases e
    exact ⟨fun Q q => .inl ⟨_, _, flat_re S ra, flat_re S rb, h, q⟩, fun Q q => .inl ⟨_, _, flat_re S ra, flat_re S rb, h, q⟩⟩
  · split at e
    · rename_i ks vs ks' vs' h1 h2
      split at e
      · rename_i hr
        cases e
        obtain ⟨p, kvs, rfl, e1, e2, e3⟩ := dct_rep S h1 ra
        obtain ⟨p', lvs, rfl, e1', e2', e3'⟩ := dct_rep S h2 rb
        exact ⟨fun Q q => .inr ⟨B, μ, p, p', kvs, lvs, ks, ks', vs, vs', rfl, rfl, rfl, e1, e1', e2, e2', e3, e3', hr.1, hr.2, q⟩, fun Q q => .inr ⟨B, μ, p, p', kvs, lvs, ks, ks', vs, vs', rfl, rfl, rfl, e1, e1', e2, e2', e3, e3', hr.1, hr.2, q⟩⟩
      · cases e
    · cases e
theorem eq_ok {k : Bool} (S : StOk B H μ st) (ra : Rep B H μ a x) (rb : Rep B H μ b y) (e : cmpV .eq a b st = some k) (q : Q (.bl k) H) : rEqX2 B.K x y H Q := (eqB_ok S ra rb e).1 Q q
theorem ne_ok {k : Bool} (S : StOk B H μ st) (ra : Rep B H μ a x) (rb : Rep B H μ b y) (e : cmpV .ne a b st = some k) (q : Q (.bl k) H) : rNeX2 B.K x y H Q := by
  have e : (eqB a b st).map (!·) = some k := e
  cases z : eqB a b st with
  | none => rw [z] at e; cases e
  | some j =>
    rw [z] at e; cases e
    exact (eqB_ok S ra rb z).2 Q q
def rIxX (K : PySem.W.Frag) : R2 := fun x y H Q => rIx K x y H Q ∨ rIxD x y H Q
theorem ix_seqX {X : Cx} (hu : X.A.units + 1 < cLine) : IxR X (rIxX X.K) := ix_seq.or (ix_dict hu)
theorem ix_ok (S : StOk B H μ st) (ra : Rep B H μ a x) (rb : Rep B H μ b y) (W : Wd B H μ repD (.of (ixV a b st) st) Q) : rIxX B.K x y H Q := by
  unfold ixV at W
  split at W
  · rename_i s i
    cases ra; cases rb
    cases q : Rx.atI s.toList i with
    | none => rw [q] at W; exact W.not.elim
    | some c =>
      rw [q] at W
      simp only [Option.bind_some] at W
      split at W
      · rename_i hl
        refine .inl (.inr (.inr ⟨_, _, c.toNat, rfl, rfl, by rw [len_s, line_eq]; exact hl, ?_, W.here S (by show _ = _; rw [sign_s])⟩))
        rw [cps_s]
        unfold Rx.atI at q
        unfold L2.atI
        rw [List.length_map]
        show (Rx.ixN s.toList.length i).bind _ = _
        cases q2 : Rx.ixN s.toList.length i with
        | none => rw [q2] at q; cases q
        | some j =>
          rw [q2] at q
          simp only [Option.bind_some] at q ⊢
          rw [List.getElem?_map, q]; rfl
      · exact W.not.elim
  · split at W
    · rename_i xs q
      split at W
      · rename_i i _
        cases rb
        cases e : Rx.atI xs i with
        | none => rw [e] at W; exact W.not.elim
        | some d =>
          rw [e] at W
          obtain ⟨p, vs, rfl, h, r⟩ := seq_rep S q ra
          obtain ⟨v, h1, h2⟩ := atI_rep r e
          rcases h with h | h
          · exact .inl (.inl ⟨p, vs, i, v, rfl, rfl, h, h1, W.here S h2⟩)
          · exact .inl (.inr (.inl ⟨p, vs, i, v, rfl, rfl, h, h1, W.here S h2⟩))
      · exact W.not.elim
    · split at W
      · rename_i ks vs k h1 h2
        obtain ⟨p, kvs, rfl, h, hk, r⟩ := dct_rep S h1 ra
        have ey := kyOf_rep h2 rb
        subst ey
        rcases look_rep (k := k) hk r with ⟨l1, _⟩ | ⟨d, v, l1, l2, l3⟩
        · rw [l1] at W; exact W.not.elim
        · rw [l1] at W
          refine .inr ⟨p, v, rfl, ?_, W.here S l3⟩
          have := DGet.k (k := kyK k) h
          rw [l2] at this; exact this
      · exact W.not.elim
theorem inn_ok {neg k : Bool} (S : StOk B H μ st) (ra : Rep B H μ a x) (rb : Rep B H μ b y) (e : cmpV (if neg then .notin else .isin) a b st = some k) (q : Q (.bl k) H) : rInX B.K neg x y H Q := by
  have e' : inB a b st = some (if neg then !k else k) := by
    cases neg
    · exact e
    · have e : (inB a b st).map (!·) = some k := e
      cases z : inB a b st with
      | none => rw [z] at e; cases e
      | some j => rw [z] at e; cases e; simp
  have q' : ∀ j, (if neg then !k else k) = j → Q (.bl (if neg then !j else j)) H := by
    intro j hj
    subst hj
    cases neg
    · exact q
    · simpa using q
  unfold inB at e'
  split at e'
  · rename_i t
    split at e'
    · rename_i s
      cases ra; cases rb
      split at e'
      · rename_i c hc
        have z : s = String.ofList [c] := by rw [← hc, String.ofList_toList]
        subst z
        refine .inl ⟨c.toNat, _, by rw [← sign_s], rfl, ?_⟩
        rw [mem_sign]
        exact q' _ (Option.some.inj e').symm
      · cases e'
    · cases e'
  · split at e'
    · rename_i xs hx
      split at e'
      · rename_i hs
        rw [Bool.and_eq_true] at hs
        obtain ⟨p, vs, rfl, h, r⟩ := seq_rep S hx rb
        obtain ⟨q1, q2⟩ := any_eqV hs.1 ra hs.2 r
        refine .inr (.inl ⟨p, vs, rfl, h, scal_flat hs.1 ra, q2, ?_⟩)
        rw [q1]
        exact q' _ (Option.some.inj e').symm
      · cases e'
    · split at e'
      · rename_i ks vs j h1 h2
        obtain ⟨p, kvs, rfl, h, hk, r⟩ := dct_rep S h1 rb
        have ex := kyOf_rep h2 ra
        subst ex
        refine .inr (.inr ⟨p, _, rfl, DGet.k h, ?_⟩)
        rcases look_rep (k := j) hk r with ⟨l1, l2⟩ | ⟨d, v, l1, l2, _⟩
        · rw [l2]; rw [l1] at e'; exact q' _ (Option.some.inj e').symm
        · rw [l2]; rw [l1] at e'; exact q' _ (Option.some.inj e').symm
      · cases e'
def rIsX (neg : Bool) : R2 := fun x y H Q => (y = .non ∧ Q (.bl (if neg then !decide (x = .non) else decide (x = .non))) H) ∨ (∃ a b : Bool, x = .bl a ∧ y = .bl b ∧ Q (.bl (if neg then !decide (a = b) else decide (a = b))) H)
theorem op_isX {X : Cx} : OpR X (compareOp .Is) (rIsX false) := OpR.or op_isN op_isBl
theorem op_isNotX {X : Cx} : OpR X (compareOp .IsNot) (rIsX true) := OpR.or op_notN op_notBl
theorem is_ok {neg k : Bool} (ra : Rep B H μ a x) (rb : Rep B H μ b y) (e : cmpV (if neg then .isnot else .is) a b st = some k) (q : Q (.bl k) H) : rIsX neg x y H Q := by
  have e' : isB a b = some (if neg then !k else k) := by
    cases neg
    · exact e
    · have e : (isB a b).map (!·) = some k := e
      cases z : isB a b with
      | none => rw [z] at e; cases e
      | some j => rw [z] at e; cases e; simp
  have q' : ∀ j, (if neg then !k else k) = j → Q (.bl (if neg then !j else j)) H := by
    intro j hj
    subst hj
    cases neg
    · exact q
    · simpa using q
  unfold isB at e'
  split at e'
  · cases ra; cases rb
    rename_i p r
    refine .inr ⟨p, r, rfl, rfl, ?_⟩
    have z : decide (p = r) = (p == r) := by cases p <;> cases r <;> rfl
    rw [z]
    exact q' _ (Option.some.inj e').symm
  · cases ra; cases rb
    exact .inl ⟨rfl, q' true (Option.some.inj e').symm⟩
  · cases rb
    refine .inl ⟨rfl, ?_⟩
    have z : decide (x = V.non) = false := by
      apply decide_eq_false
      rintro rfl
      cases a <;> first
        | (cases ra; done)
        | (rename_i h; exact h rfl)
        | (obtain ⟨_, _, h, _⟩ := ra; cases h; done)
        | (obtain ⟨_, h, _⟩ := ra; cases h; done)
    rw [z]
    exact q' false (Option.some.inj e').symm
  · cases e'
theorem ord_ok {o : Co} {k : Bool} (ho : o = .lt ∨ o = .le ∨ o = .gt ∨ o = .ge) (ra : Rep B H μ a x) (rb : Rep B H μ b y) (e : cmpV o a b st = some k) : ∃ i j, x = .int i ∧ y = .int j ∧ cmpI o i j = some k := by
  have e' : ordB o a b = some k := by
    rcases ho with rfl | rfl | rfl | rfl <;> exact e
  unfold ordB at e'
  split at e'
  · cases ra; cases rb
    exact ⟨_, _, rfl, rfl, e'⟩
  · cases e'

/-! ### isinstance -/
def tyS : Ty → String
  | .int => "int" | .bool => "bool" | .str => "str" | .tuple => "tuple" | .list => "list" | .dict => "dict"
/-- the type's name of a thing -/
def tyD (st : Store) : D → Option String
  | .non => some "NoneType"
  | .bl _ => some "bool"
  | .int _ => some "int"
  | .str _ => some "str"
  | .tup _ => some "tuple"
  | .lst _ => some "list"
  | .ro _ => some "list"
  | .dct _ _ => some "dict"
  | .loc n => match st[n]? with
    | some (.lst _) => some "list"
    | some (.dct _ _) => some "dict"
    | none => none
theorem tyX_of {s : String} (S : StOk B H μ st) (e : tyD st a = some s) (r : Rep B H μ a x) : TyX B.K H x (.type s) := by
  cases a with
  | non => cases r; cases e; exact .base .non
  | bl b => cases r; cases e; exact .base (.bl b)
  | int i => cases r; cases e; exact .base (.int i)
  | str i => cases r; cases e; exact .base (.str _)
  | tup xs =>
    cases e
    obtain ⟨p, vs, rfl, t, _⟩ := r
    rcases t with ⟨_, t | ⟨o, t⟩⟩ | ⟨o, its, n, h1, h2, _⟩
    · exact .base (.tup t)
    · exact .fTuple t
    · exact .kTuple h1 h2
  | lst xs =>
    cases e
    obtain ⟨p, vs, rfl, ⟨_, t⟩, _⟩ := r
    exact .base (.lst t)
  | ro xs =>
    cases e
    obtain ⟨p, vs, rfl, t, _⟩ := r
    rcases t with ⟨_, t | ⟨o, t⟩⟩ | ⟨o, its, n, h1, h2, _⟩
    · exact .base (.lst t)
    · exact .base (.frz t)
    · exact .kList h1 h2
  | dct ks vs =>
    cases e
    obtain ⟨p, kvs, rfl, ⟨_, t⟩, _⟩ := r
    exact .base (.dK t)
  | loc n =>
    obtain ⟨p, rfl, h⟩ := r
    obtain ⟨c, hc, k⟩ := S.at h
    simp only [tyD, hc] at e
    cases c with
    | lst ds =>
      cases e
      obtain ⟨vs, t, _⟩ := k
      exact .base (.lst t)
    | dct ks vs =>
      cases e
      obtain ⟨vs, t, _⟩ := k
      exact .base (.dK t)
def tyAns (t : Ty) (s : String) : Bool := match t with
  | .int => s == "int" || s == "bool"
  | t => s == tyS t
theorem kit_all : ∀ (t : Ty) (s : String), s ∈ ["NoneType", "bool", "int", "str", "tuple", "list", "dict"] → kitB s (tyS t) = some (tyAns t s) := by
  intro t s hs
  simp only [List.mem_cons, List.mem_nil_iff, or_false] at hs
  rcases hs with rfl | rfl | rfl | rfl | rfl | rfl | rfl <;> cases t <;> decide +kernel
theorem isi_ok {t : Ty} {k : Bool} (S : StOk B H μ st) (e : isTy st a t = some k) (r : Rep B H μ a x) (q : Q (.bl k) H) : rIsi B.K [x, .ty (tyS t)] H Q := by
  have main : ∃ s, tyD st a = some s ∧ s ∈ ["NoneType", "bool", "int", "str", "tuple", "list", "dict"] ∧ k = tyAns t s := by
    cases a with
    | loc n =>
      obtain ⟨p, rfl, h⟩ := r
      obtain ⟨c, hc, k⟩ := S.at h
      simp only [tyD, hc]
      cases c <;> cases t <;> simp only [isTy, hc, Option.map_some] at e <;> cases e <;> exact ⟨_, rfl, by decide, by decide +kernel⟩
    | _ => cases t <;> simp only [isTy] at e <;> cases e <;> exact ⟨_, rfl, by decide, by decide +kernel⟩
  obtain ⟨s, h1, h2, rfl⟩ := main
  exact ⟨x, _, .type s, .type (tyS t), _, rfl, .ty _, tyX_of S h1 r, kit_ty (kit_all t s h2), q⟩
end
end Rx

set_option Elab.async false
set_option linter.all false
set_option maxRecDepth 100000
set_option maxHeartbeats 2000000
set_option autoImplicit false
namespace Rx
open PySem L2 TL

section
variable {B : Bg} {H : Hp} {μ : List Addr} {st : Store} {a b d : D} {x y : V} {Q : VK} {m : Bool} {xs ys : List D} {vs : List V}
theorem ints_rep : ∀ {xs : List D} {l : List Int} {vs : List V}, intsD xs = some l → Reps B H μ xs vs → vs = l.map V.int
  | [], l, vs, e, r => by cases e; cases r; rfl
  | d :: ds, l, vs, e, r => by
    obtain ⟨v, vs, rfl, r1, r2⟩ := r
    cases d <;> simp only [intsD] at e <;> try (cases e; done)
    rename_i i
    cases q : intsD ds with
    | none => rw [q] at e; cases e
    | some l' =>
      rw [q] at e; cases e
      cases r1
      rw [List.map_cons, ints_rep q r2]
theorem bls_rep : ∀ {xs : List D} {l : List Bool} {vs : List V}, blsD xs = some l → Reps B H μ xs vs → vs = l.map V.bl
  | [], l, vs, e, r => by cases e; cases r; rfl
  | d :: ds, l, vs, e, r => by
    obtain ⟨v, vs, rfl, r1, r2⟩ := r
    cases d <;> simp only [blsD] at e <;> try (cases e; done)
    rename_i i
    cases q : blsD ds with
    | none => rw [q] at e; cases e
    | some l' =>
      rw [q] at e; cases e
      cases r1
      rw [List.map_cons, bls_rep q r2]
theorem strs_rep : ∀ {xs : List D} {l : List String} {vs : List V}, strsD xs = some l → Reps B H μ xs vs → vs = (l.map Str.ofString).map V.str
  | [], l, vs, e, r => by cases e; cases r; rfl
  | d :: ds, l, vs, e, r => by
    obtain ⟨v, vs, rfl, r1, r2⟩ := r
    cases d <;> simp only [strsD] at e <;> try (cases e; done)
    rename_i i
    cases q : strsD ds with
    | none => rw [q] at e; cases e
    | some l' =>
      rw [q] at e; cases e
      cases r1
      rw [List.map_cons, List.map_cons, strs_rep q r2]
theorem lst_seq (S : StOk B H μ st) {l : List D} (e : lstOf st a = some l) (r : Rep B H μ a x) : ∃ p vs, x = .ref p ∧ SqL B.K H p vs ∧ Reps B H μ l vs := by
  obtain ⟨p, vs, h1, h2, h3⟩ := lst_rep S e r
  exact ⟨p, vs, h1, SqL.of h2, h3⟩
/-! ### built-ins -/
def biS : Bi → Bool × String
  | .len => (true, "len") | .max => (true, "max") | .min => (true, "min") | .sum => (true, "sum") | .all => (true, "all") | .any => (true, "any")
  | .int => (false, "int") | .tuple => (false, "tuple") | .list => (false, "list") | .sorted => (true, "sorted")
def biF (b : Bi) : Value := if (biS b).1 then .builtin (biS b).2 else .type (biS b).2
def rLen (K : PySem.W.Frag) : List V → Hp → VK → Prop := fun xs H Q => (∃ x n, xs = [x] ∧ LenV K x H n ∧ Q (.int n) H) ∨ ∃ (a : Addr) (kvs : List (Key × V)), xs = [.ref a] ∧ H a = some (.dK kvs) ∧ Q (.int kvs.length) H
def rSortD : List V → Hp → VK → Prop := fun xs H Q => ∃ (a : Addr) (kvs : List (Key × V)) (ks : List Int), xs = [.ref a] ∧ Rd H a (.dK kvs) ∧ kvs.map (·.1) = ks.map Sum.inl ∧ ks.length < 64 ∧ ∀ (ys : List Int) (p : Addr), ys.Perm ks → ys.Pairwise (· ≤ ·) → H p = none → Q (.ref p) (upd H p (.lst (ys.map V.int)))
def rBi (K : PySem.W.Frag) : Bi → List V → Hp → VK → Prop
  | .len => rLen K
  | .max => fun xs H Q => ∃ i j, xs = [.int i, .int j] ∧ Q (.int (if j > i then j else i)) H
  | .min => fun xs H Q => ∃ i j, xs = [.int i, .int j] ∧ Q (.int (if j < i then j else i)) H
  | .sum => rSum K
  | .all => rAll K
  | .any => rAny K
  | .int => fun xs H Q => (∃ i, xs = [.int i] ∧ Q (.int i) H) ∨ ∃ k, xs = [.bl k] ∧ Q (.int (if k then 1 else 0)) H
  | .tuple => fun xs H Q => ∃ p ys, xs = [.ref p] ∧ ((SqL K H p ys ∧ ∀ l, H l = none → Q (.ref l) (upd H l (.tup ys))) ∨ (SqT K H p ys ∧ Q (.ref p) H))
  | .list => fun xs H Q => ∃ p ys, xs = [.ref p] ∧ (SqL K H p ys ∨ SqT K H p ys) ∧ ∀ l, H l = none → Q (.ref l) (upd H l (.lst ys))
  | .sorted => fun vs H Q => rSortedI K vs H Q ∨ rSortT K vs H Q ∨ rSortD vs H Q
theorem call_bi {X : Cx} (hc : X.calm = true) (b : Bi) : CallR X (biF b) (rBi X.K b) := by
  cases b with
  | len =>
    refine CallR.or call_len ?_
    intro pins s σ H xs us Q I r h
    obtain ⟨a, kvs, rfl, e, q⟩ := h
    cases r with
    | cons r1 r2 =>
      cases r1; cases r2
      exact d_len I (.inl e) fun t s' I' => ⟨.int _, H, I', ⟨_, rfl⟩, q⟩
  | max => exact call_max2 hc
  | min => exact call_min2 hc
  | sum => exact cr_sum hc
  | all => exact cr_all hc
  | any => exact cr_any hc
  | int => exact call_int1
  | tuple => exact call_tuple_of
  | list => exact call_list_of
  | sorted => exact CallR.or cr_sortedI (CallR.or cr_sortTup (call_sortedDI hc))
/-! sorted ints -/
theorem insI_perm (x : Int) : ∀ l : List Int, (insI x l).Perm (x :: l)
  | [] => .refl _
  | y :: r => by
    unfold insI
    split
    · exact .refl _
    · exact ((insI_perm x r).cons y).trans (.swap x y r)
theorem sortI_perm : ∀ l : List Int, (sortI l).Perm l
  | [] => .refl _
  | x :: r => (insI_perm x _).trans ((sortI_perm r).cons x)
theorem insI_sorted (x : Int) : ∀ {l : List Int}, l.Pairwise (· ≤ ·) → (insI x l).Pairwise (· ≤ ·)
  | [], _ => by simp [insI]
  | y :: r, h => by
    unfold insI
    rw [List.pairwise_cons] at h
    split
    · rename_i hx
      rw [List.pairwise_cons]
      refine ⟨fun z hz => ?_, List.pairwise_cons.mpr h⟩
      rcases List.mem_cons.mp hz with e | e
      · omega
      · have := h.1 z e; omega
    · rename_i hx
      rw [List.pairwise_cons]
      refine ⟨fun z hz => ?_, insI_sorted x h.2⟩
      rcases List.mem_cons.mp ((insI_perm x r).mem_iff.mp hz) with e | e
      · omega
      · exact h.1 z e
theorem sortI_sorted : ∀ l : List Int, (sortI l).Pairwise (· ≤ ·)
  | [] => .nil
  | x :: r => insI_sorted x (sortI_sorted r)
theorem sorted_one : ∀ {l m : List Int}, l.Perm m → l.Pairwise (· ≤ ·) → m.Pairwise (· ≤ ·) → l = m
  | [], m, h, _, _ => h.nil_eq
  | x :: l, [], h, _, _ => (h.symm.nil_eq).symm
  | x :: l, y :: m, h, hl, hm => by
    rw [List.pairwise_cons] at hl hm
    have e : x = y := by
      have h1 : x ∈ y :: m := h.mem_iff.mp List.mem_cons_self
      have h2 : y ∈ x :: l := h.mem_iff.mpr List.mem_cons_self
      rcases List.mem_cons.mp h1 with z | z
      · exact z
      · rcases List.mem_cons.mp h2 with z2 | z2
        · exact z2.symm
        · have := hl.1 y z2; have := hm.1 x z; omega
    subst e
    rw [sorted_one (List.Perm.cons_inv h) hl.2 hm.2]
theorem sort_eq {l ns : List Int} (h : ns.Perm l) (hs : ns.Pairwise (· ≤ ·)) : ns = sortI l := sorted_one (h.trans (sortI_perm l).symm) hs (sortI_sorted l)
theorem reps_ints : ∀ l : List Int, Reps B H μ (l.map D.int) (l.map V.int)
  | [] => rfl
  | i :: l => ⟨_, _, rfl, rfl, reps_ints l⟩
theorem kys_rep : ∀ {ks : List Ky} {l : List Int}, kysI ks = some l → ks.map kyK = l.map Sum.inl
  | [], l, e => by cases e; rfl
  | k :: ks, l, e => by
    cases k <;> simp only [kysI] at e <;> try (cases e; done)
    cases q : kysI ks with
    | none => rw [q] at e; cases e
    | some l' =>
      rw [q] at e; cases e
      rw [List.map_cons, List.map_cons, kys_rep q]; rfl
theorem bi_ok {f : Bi} {ds : List D} (S : StOk B H μ st) (r : Reps B H μ ds vs) (W : Wd B H μ repD (biV f m ds st) Q) : rBi B.K f vs H Q := by
  have one : ∀ {d : D}, ds = [d] → ∃ v, vs = [v] ∧ Rep B H μ d v := by
    rintro d rfl
    obtain ⟨v, vs, rfl, r1, r2⟩ := r
    cases r2
    exact ⟨v, rfl, r1⟩
  unfold biV at W
  split at W
  · obtain ⟨v, rfl, r1⟩ := one rfl
    cases r1
    split at W
    · rename_i hl
      refine .inl ⟨_, _, rfl, ⟨by rw [len_s, line_eq]; exact hl, rfl⟩, ?_⟩
      rw [len_s]
      exact W.here S rfl
    · exact W.not.elim
  · obtain ⟨v, rfl, r1⟩ := one rfl
    split at W
    · rename_i l _ q
      obtain ⟨p, vs, rfl, h, r2⟩ := seq_rep S q r1
      refine .inl ⟨_, vs.length, rfl, ?_, ?_⟩
      · rcases h with h | h
        · exact .inl ⟨vs, h, rfl⟩
        · exact .inr ⟨vs, h, rfl⟩
      · rw [r2.length]; exact W.here S rfl
    · rename_i ks vs _ q
      obtain ⟨p, kvs, rfl, h, hk, _⟩ := dct_rep S q r1
      refine .inr ⟨p, kvs, rfl, h, ?_⟩
      have e := congrArg List.length hk
      rw [List.length_map, List.length_map] at e
      rw [e]; exact W.here S rfl
    · exact W.not.elim
  · obtain ⟨v, vs, rfl, r1, r2⟩ := r
    obtain ⟨w, ws, rfl, r2, r3⟩ := r2
    cases r1; cases r2; cases r3
    exact ⟨_, _, rfl, W.here S rfl⟩
  · obtain ⟨v, vs, rfl, r1, r2⟩ := r
    obtain ⟨w, ws, rfl, r2, r3⟩ := r2
    cases r1; cases r2; cases r3
    exact ⟨_, _, rfl, W.here S rfl⟩
  · obtain ⟨v, rfl, r1⟩ := one rfl
    obtain ⟨d, e0, W⟩ := W.of
    obtain ⟨l, e, rfl⟩ := Option.map_eq_some_iff.mp e0
    obtain ⟨zs, e1, e2⟩ := Option.bind_eq_some_iff.mp e
    obtain ⟨p, vs, rfl, h, r2⟩ := lst_seq S e1 r1
    have := ints_rep e2 r2
    subst this
    exact ⟨p, l, rfl, h, W.here S rfl⟩
  · obtain ⟨v, rfl, r1⟩ := one rfl
    obtain ⟨d, e0, W⟩ := W.of
    obtain ⟨l, e, rfl⟩ := Option.map_eq_some_iff.mp e0
    obtain ⟨zs, e1, e2⟩ := Option.bind_eq_some_iff.mp e
    obtain ⟨p, vs, rfl, h, r2⟩ := lst_seq S e1 r1
    have := bls_rep e2 r2
    subst this
    exact ⟨p, l, rfl, h, W.here S rfl⟩
  · obtain ⟨v, rfl, r1⟩ := one rfl
    obtain ⟨d, e0, W⟩ := W.of
    obtain ⟨l, e, rfl⟩ := Option.map_eq_some_iff.mp e0
    obtain ⟨zs, e1, e2⟩ := Option.bind_eq_some_iff.mp e
    obtain ⟨p, vs, rfl, h, r2⟩ := lst_seq S e1 r1
    have := bls_rep e2 r2
    subst this
    exact ⟨p, l, rfl, h, W.here S rfl⟩
  · obtain ⟨v, rfl, r1⟩ := one rfl
    cases r1
    exact .inl ⟨_, rfl, W.here S rfl⟩
  · obtain ⟨v, rfl, r1⟩ := one rfl
    cases r1
    exact .inr ⟨_, rfl, W.here S rfl⟩
  · obtain ⟨v, rfl, r1⟩ := one rfl
    obtain ⟨p, vs, rfl, t, r2⟩ := sqT_of r1
    exact ⟨p, vs, rfl, .inr ⟨t, W.here S r1⟩⟩
  · obtain ⟨v, rfl, r1⟩ := one rfl
    obtain ⟨d, e0, W⟩ := W.of
    obtain ⟨l, e, rfl⟩ := Option.map_eq_some_iff.mp e0
    obtain ⟨p, vs, rfl, h, r2⟩ := lro_rep S e r1
    exact ⟨p, vs, rfl, .inl ⟨h, tup_ok S r2 W⟩⟩
  · obtain ⟨v, rfl, r1⟩ := one rfl
    split at W
    · rename_i l q
      obtain ⟨p, vs, rfl, h, r2⟩ := seq_rep S q r1
      exact ⟨p, vs, rfl, h, newL_ok S r2 W⟩
    · exact W.not.elim
  · obtain ⟨v, rfl, r1⟩ := one rfl
    split at W
    · rename_i xs q
      split at W
      · rename_i l q2
        obtain ⟨p, vs, rfl, h, r2⟩ := seq_rep S q r1
        have := ints_rep q2 r2
        subst this
        have fin : ∀ (ns' : List Int) (p : Addr), ns'.Perm l → ns'.Pairwise (· ≤ ·) → H p = none → Q (.ref p) (upd H p (.lst (ns'.map V.int))) := fun ns' p h1 h2 hp => by
          rw [sort_eq h1 h2]
          exact newL_ok S (reps_ints _) W p hp
        rcases h with h | h
        · exact .inl ⟨p, l, rfl, h, fin⟩
        · exact .inr (.inl ⟨p, l, rfl, h, fin⟩)
      · exact W.not.elim
    · split at W
      · rename_i ks us q2
        split at W
        · rename_i l q3
          split at W
          · rename_i hl
            obtain ⟨p, kvs, rfl, h, hk, _⟩ := dct_rep S q2 r1
            refine .inr (.inr ⟨p, kvs, l, rfl, .inl h, by rw [← kys_rep q3, ← hk], hl, fun ns' p h1 h2 hp => ?_⟩)
            rw [sort_eq h1 h2]
            exact newL_ok S (reps_ints _) W p hp
          · exact W.not.elim
        · exact W.not.elim
      · exact W.not.elim
  · exact W.not.elim

/-! ### methods of texts -/
theorem par_cut (c : Char) : ∀ (l acc : List Char), par [c.toNat] (acc.map Char.toNat) (l.map Char.toNat) = (cutAt c l).map fun p => ((acc ++ p.1).map Char.toNat, p.2.map Char.toNat)
  | [], acc => rfl
  | x :: r, acc => by
    by_cases h : x = c
    · subst h
      rw [List.map_cons, par_hit (by simp [pre])]
      simp [cutAt]
    · have hp : pre [c.toNat] (x.toNat :: r.map Char.toNat) = false := pre_of_head [] _ (fun e => h (char_inj e))
      have ih := par_cut c r (acc ++ [x])
      rw [List.map_append, List.map_cons, List.map_nil] at ih
      rw [List.map_cons, par_miss hp, ih]
      simp only [cutAt, if_neg h, Option.map_map]
      congr 1
      funext p
      simp
theorem splitC_ne (c : Char) : ∀ l : List Char, splitC c l ≠ []
  | [] => by simp [splitC]
  | x :: r => by
    unfold splitC
    split
    · simp
    · split <;> simp
theorem spl_split (c : Char) : ∀ (l acc : List Char), spl [c.toNat] 0 (acc.map Char.toNat) (l.map Char.toNat) = (match splitC c l with
    | [] => []
    | p :: ps => ((acc ++ p) :: ps)).map (List.map Char.toNat)
  | [], acc => by simp [splitC, spl_nil]
  | x :: r, acc => by
    by_cases h : x = c
    · subst h
      have ih : spl [x.toNat] 0 [] (r.map Char.toNat) = _ := spl_split x r []
      rw [List.map_cons, spl_hit (by simp [pre])]
      show _ :: spl [x.toNat] 0 [] (r.map Char.toNat) = _
      rw [ih]
      simp only [splitC, if_true]
      cases splitC x r <;> simp
    · have hp : pre [c.toNat] (x.toNat :: r.map Char.toNat) = false := pre_of_head [] _ (fun e => h (char_inj e))
      have ih := spl_split c r (acc ++ [x])
      rw [List.map_append, List.map_cons, List.map_nil] at ih
      rw [List.map_cons, spl_miss hp, ih]
      simp only [splitC, if_neg h]
      cases hz : splitC c r with
      | nil => exact absurd (by assumption) (splitC_ne c r)
      | cons p ps => simp

theorem part_s (s : String) (c : Char) : Txt.partition (Str.ofString s) (Str.ofString (String.ofList [c])) = match cutAt c s.toList with
    | some (a, b) => (Str.ofString (String.ofList a), Str.ofString (String.ofList [c]), Str.ofString (String.ofList b))
    | none => (Str.ofString s, Str.empty, Str.empty) := by
  have e : tl (Str.ofString (String.ofList [c])) = [c.toNat] := by rw [tl_s, String.toList_ofList]; rfl
  have h := par_cut c s.toList []
  rw [partition_par _ _ (by rw [e]; simp), e, tl_s]
  rw [show par [c.toNat] [] (s.toList.map Char.toNat) = _ from h]
  cases cutAt c s.toList with
  | none => rfl
  | some p =>
    obtain ⟨a, b⟩ := p
    simp only [Option.map_some, List.nil_append]
    have f : ∀ l : List Char, (⟨(l.map Char.toNat).toArray⟩ : Str) = Str.ofString (String.ofList l) := fun l => of_tl rfl
    rw [f a, f b]
theorem split_s (s : String) (c : Char) (hc : c.toNat < 256) : Txt.split (Str.ofString s) (Str.ofString (String.ofList [c])) = (splitC c s.toList).map fun l => Str.ofString (String.ofList l) := by
  have e : tl (Str.ofString (String.ofList [c])) = [c.toNat] := by rw [tl_s, String.toList_ofList]; rfl
  apply map_tl_inj
  rw [split_spl _ _ (by rw [e]; simp) (kind_ok (by rw [← Array.all_toList]; show (tl _).all _ = true; rw [e]; simpa using hc)), e, tl_s]
  rw [show spl [c.toNat] 0 [] (s.toList.map Char.toNat) = _ from spl_split c s.toList []]
  rw [List.map_map]
  cases hz : splitC c s.toList with
  | nil => rfl
  | cons p ps =>
    simp only [List.nil_append]
    apply List.map_congr_left
    intro l _
    show l.map Char.toNat = tl (Str.ofString (String.ofList l))
    rw [tl_s, String.toList_ofList]
theorem join_s (s : String) : ∀ l : List String, Txt.join (Str.ofString s) (l.map Str.ofString) = Str.ofString (joinS s l) := by
  intro l
  rw [join_eq]
  induction l with
  | nil => rfl
  | cons x r ih =>
    cases r with
    | nil => rfl
    | cons z r =>
      show Str.ofString x ++ Str.ofString s ++ Str.join (Str.ofString s) ((z :: r).map Str.ofString) = Str.ofString (x ++ s ++ joinS s (z :: r))
      rw [ih, app_s, app_s]
theorem count_s (s : String) (c : Char) : Txt.count (Str.ofString s) (Str.ofString (String.ofList [c])) = (s.toList.count c : Nat) := by
  rw [← sign_s, PyProof.Rows.count_cnt, cps_s]
  induction s.toList with
  | nil => rfl
  | cons x r ih =>
    rw [List.map_cons, PyProof.Rows.cnt_cons, ih, List.count_cons]
    by_cases h : x = c
    · subst h; simp; omega
    · have : ¬ x.toNat = c.toNat := fun e => h (char_inj e)
      simp [h, this]

/-! ### methods -/
/-- what becomes of a changing list -/
theorem put_ok {n : Nat} {p : Addr} {o : HO} {c : Cell} {d : D} {v : V} (S : StOk B H μ st) (h : μ[n]? = some p) (hc : CellOk B (upd H p o) μ p c) (hd : Rep B (upd H p o) μ d v) (W : Wd B H μ repD (.ok d (st.set n c)) Q) : Q v (upd H p o) := by
  obtain ⟨d', st', e, k⟩ := W
  cases e
  exact k v _ μ (Later.upd (List.mem_of_getElem? h)) (S.upd h hc) hd
def rSplit : V → List V → Hp → VK → Prop := fun x xs H Q => ∃ a b, x = .str a ∧ xs = [.str b] ∧ (b.length == 0) = false ∧ a.length + 2 ≤ sizeLine ∧ rNewStrs (Txt.split a b) H Q
def rPart : V → List V → Hp → VK → Prop := fun x xs H Q => ∃ a b, x = .str a ∧ xs = [.str b] ∧ (b.length == 0) = false ∧ a.length ≤ sizeLine ∧
    ∀ p, H p = none → Q (.ref p) (upd H p (.tup [.str (Txt.partition a b).1, .str (Txt.partition a b).2.1, .str (Txt.partition a b).2.2]))
def rJoin (K : PySem.W.Frag) : V → List V → Hp → VK → Prop := fun x xs H Q => ∃ a p, ∃ ys : List Str, x = .str a ∧ xs = [.ref p] ∧ (SqL K H p (ys.map V.str) ∨ SqT K H p (ys.map V.str)) ∧
    (ys.map (·.length)).sum + ys.length * a.length ≤ 16777216 ∧ Q (.str (Txt.join a ys)) H
def rCount : V → List V → Hp → VK → Prop := fun x xs H Q => ∃ a b, x = .str a ∧ xs = [.str b] ∧ Q (.int (Txt.count a b)) H
theorem len_one (c : Char) : ((Str.ofString (String.ofList [c])).length == 0) = false := by
  rw [len_s, String.length_ofList]; rfl
theorem sep_of {t : String} {c : Char} (h : t.toList = [c]) : t = String.ofList [c] := by rw [← h, String.ofList_toList]
theorem one_of {d : D} (r : Reps B H μ [d] vs) : ∃ v, vs = [v] ∧ Rep B H μ d v := by
  obtain ⟨v, vs, rfl, r1, r2⟩ := r
  cases r2
  exact ⟨v, rfl, r1⟩
theorem reps3 (a b c : String) : Reps B H μ [.str a, .str b, .str c] [.str (Str.ofString a), .str (Str.ofString b), .str (Str.ofString c)] := ⟨_, _, rfl, rfl, _, _, rfl, rfl, _, _, rfl, rfl, rfl⟩
/-- what a method does: its class's name, its own reading -/
def meR (K : PySem.W.Frag) : Me → V → List V → Hp → VK → Prop
  | .join => rJoin K
  | .partition => rPart
  | .split => rSplit
  | .count => rCount
  | .append => rAppend
  | .extend => rExtend
  | .get1 => fun x vs H Q => ∃ a y o, x = .ref a ∧ vs = [y] ∧ DGet H a y o ∧ Q (o.getD .non) H
  | .get2 => fun x vs H Q => ∃ a y z o, x = .ref a ∧ vs = [y, z] ∧ DGet H a y o ∧ Q (o.getD z) H
  | .setdef => fun x vs H Q => ∃ (a : Addr) (z : V) (kvs : List (Key × V)) (k : Key), x = .ref a ∧ vs = [kV k, z] ∧ H a = some (.dK kvs) ∧ kvs.length < sizeLine ∧ (∀ v, valV kvs k = some v → Q v H) ∧ (valV kvs k = none → Q z (upd H a (.dK (putK kvs k z))))
  | .clear => rDClear
def meTy (K : PySem.W.Frag) : Me → V → Hp → Prop
  | .join | .partition | .split | .count => tyV K "str"
  | .append | .extend => tyV K "list"
  | .get1 | .get2 | .setdef => fun x H => ∃ a, x = .ref a ∧ IsD H a
  | .clear => tyV K "dict"
theorem meIs_ok {f : Me} (S : StOk B H μ st) (e : meIs st f a = true) (r : Rep B H μ a x) : meTy B.K f x H := by
  unfold meIs at e
  split at e
  iterate 4 (cases r; exact rfl)
  · obtain ⟨p, rfl, h⟩ := r
    split at e
    · rename_i q
      obtain ⟨p', h', c⟩ := S.of q
      rw [h] at h'; cases h'
      obtain ⟨vs, h2, _⟩ := c
      exact .inl ⟨rfl, vs, SqL.of h2⟩
    · cases e
  · obtain ⟨p, rfl, h⟩ := r
    split at e
    · rename_i q
      obtain ⟨p', h', c⟩ := S.of q
      rw [h] at h'; cases h'
      obtain ⟨vs, h2, _⟩ := c
      exact .inl ⟨rfl, vs, SqL.of h2⟩
    · cases e
  · obtain ⟨q, hq⟩ := Option.isSome_iff_exists.mp e
    obtain ⟨p, kvs, rfl, h, _⟩ := dct_rep S hq r
    exact ⟨p, rfl, .inl ⟨kvs, .inl h⟩⟩
  · obtain ⟨q, hq⟩ := Option.isSome_iff_exists.mp e
    obtain ⟨p, kvs, rfl, h, _⟩ := dct_rep S hq r
    exact ⟨p, rfl, .inl ⟨kvs, .inl h⟩⟩
  · obtain ⟨p, rfl, h⟩ := r
    split at e
    · rename_i q
      obtain ⟨p', h', c⟩ := S.of q
      rw [h] at h'; cases h'
      obtain ⟨kvs, h2, _⟩ := c
      exact ⟨p, rfl, .inl ⟨kvs, .inl h2⟩⟩
    · cases e
  · obtain ⟨p, rfl, h⟩ := r
    split at e
    · rename_i q
      obtain ⟨p', h', c⟩ := S.of q
      rw [h] at h'; cases h'
      obtain ⟨kvs, h2, _⟩ := c
      exact .inr (.inr (.inl ⟨rfl, .inl ⟨kvs, h2⟩⟩))
    · cases e
  · cases e
theorem putK_none {kvs : List (Key × V)} {k : Key} {v : V} (h : valV kvs k = none) : putK kvs k v = kvs ++ [(k, v)] := by
  unfold putK
  rw [if_neg]
  intro hz
  rw [List.any_eq_true] at hz
  obtain ⟨p, hp, e⟩ := hz
  unfold valV at h
  rw [Option.map_eq_none_iff, List.find?_eq_none] at h
  exact h p hp e
theorem me_ok {f : Me} {ds : List D} (S : StOk B H μ st) (ra : Rep B H μ a x) (r : Reps B H μ ds vs) (W : Wd B H μ repD (meV f m a ds st) Q) : meR B.K f x vs H Q := by
  unfold meV at W
  split at W
  · rename_i s e
    obtain ⟨v, rfl, r1⟩ := one_of r
    split at W
    · rename_i l q
      obtain ⟨zs, e1, e2⟩ := Option.bind_eq_some_iff.mp q
      obtain ⟨p, vs, rfl, h, r2⟩ := seq_rep S e1 r1
      have := strs_rep e2 r2
      subst this
      cases ra
      split at W
      · rename_i hl
        refine ⟨_, p, l.map Str.ofString, rfl, rfl, h, ?_, W.here S (by show _ = _; rw [join_s])⟩
        unfold joinLen at hl
        have z : (l.map Str.ofString).map (·.length) = l.map String.length := by
          rw [List.map_map]
          exact List.map_congr_left fun t _ => len_s t
        rw [z, List.length_map, len_s]
        exact hl
      · exact W.not.elim
    · exact W.not.elim
  · rename_i s t
    obtain ⟨v, rfl, r1⟩ := one_of r
    cases r1; cases ra
    split at W
    · rename_i c hc
      split at W
      · rename_i hl
        refine ⟨_, _, rfl, rfl, by rw [sep_of hc]; exact len_one c, by rw [len_s, line_eq]; exact hl, fun p hp => ?_⟩
        rw [sep_of hc, part_s]
        split at W
        · rename_i u v q
          try rw [q]
          rw [sep_of hc] at W
          exact tup_ok S (reps3 _ _ _) W p hp
        · rename_i q
          try rw [q]
          exact tup_ok S (reps3 _ _ _) W p hp
      · exact W.not.elim
    · exact W.not.elim
  · rename_i s t
    obtain ⟨v, rfl, r1⟩ := one_of r
    cases r1; cases ra
    split at W
    · rename_i c hc
      split at W
      · rename_i hl
        refine ⟨_, _, rfl, rfl, by rw [sep_of hc]; exact len_one c, by rw [len_s, line_eq]; exact hl.1, fun p hp => ?_⟩
        rw [sep_of hc, split_s s c hl.2, List.map_map]
        refine newL_ok S ?_ W p hp
        have all : ∀ ls : List (List Char), Reps B H μ (ls.map fun l => D.str (String.ofList l)) (ls.map (V.str ∘ fun l => Str.ofString (String.ofList l))) := by
          intro ls
          induction ls with
          | nil => exact rfl
          | cons l ls ih => exact ⟨_, _, rfl, rfl, ih⟩
        exact all _
      · exact W.not.elim
    · exact W.not.elim
  · rename_i s t
    obtain ⟨v, rfl, r1⟩ := one_of r
    cases r1; cases ra
    split at W
    · rename_i c hc
      refine ⟨_, _, rfl, rfl, ?_⟩
      rw [sep_of hc, count_s]
      exact W.here S rfl
    · exact W.not.elim
  · rename_i n d
    obtain ⟨v, rfl, r1⟩ := one_of r
    obtain ⟨p, rfl, h⟩ := ra
    split at W
    · rename_i ys q
      split at W
      · rename_i hl
        obtain ⟨p', h', c⟩ := S.of q
        rw [h] at h'; cases h'
        obtain ⟨vs, h2, r2⟩ := c
        refine ⟨p, vs, v, rfl, rfl, h2, by rw [r2.length, line_eq]; exact hl, ?_⟩
        have L : Later H μ (upd H p (.lst (vs ++ [v]))) μ := Later.upd (List.mem_of_getElem? h)
        exact put_ok (d := .non) (c := .lst (ys ++ [d])) S h ⟨_, upd_same, Reps.mono L _ _ (Reps.app r2 ⟨v, [], rfl, r1, rfl⟩)⟩ rfl W
      · exact W.not.elim
    · exact W.not.elim
  · rename_i n d
    obtain ⟨v, rfl, r1⟩ := one_of r
    obtain ⟨p, rfl, h⟩ := ra
    split at W
    · rename_i ys zs q q2
      split at W
      · rename_i hl
        obtain ⟨p', h', c⟩ := S.of q
        rw [h] at h'; cases h'
        obtain ⟨vs, h2, r2⟩ := c
        obtain ⟨b, ws, rfl, h3, r3⟩ := lst_rep S q2 r1
        refine ⟨p, b, vs, ws, rfl, rfl, h2, h3, by rw [r2.length, r3.length, line_eq]; exact hl, ?_⟩
        have L : Later H μ (upd H p (.lst (vs ++ ws))) μ := Later.upd (List.mem_of_getElem? h)
        exact put_ok (d := .non) (c := .lst (ys ++ zs)) S h ⟨_, upd_same, Reps.mono L _ _ (Reps.app r2 r3)⟩ rfl W
      · exact W.not.elim
    · exact W.not.elim
  · rename_i k d
    obtain ⟨v, vs, rfl, r1, r2⟩ := r
    obtain ⟨w, rfl, r5⟩ := one_of r2
    split at W
    · rename_i ks us j h1 h2
      obtain ⟨p, kvs, rfl, h, hk, r3⟩ := dct_rep S h1 ra
      have ex := kyOf_rep h2 r1
      subst ex
      refine ⟨p, _, w, _, rfl, rfl, DGet.k h, ?_⟩
      rcases look_rep (k := j) hk r3 with ⟨l1, l2⟩ | ⟨d, u, l1, l2, r4⟩
      · rw [l2]; rw [l1] at W; exact W.here S r5
      · rw [l2]; rw [l1] at W; exact W.here S r4
    · exact W.not.elim
  · rename_i k
    obtain ⟨v, rfl, r1⟩ := one_of r
    split at W
    · rename_i ks us j h1 h2
      obtain ⟨p, kvs, rfl, h, hk, r3⟩ := dct_rep S h1 ra
      have ex := kyOf_rep h2 r1
      subst ex
      refine ⟨p, _, _, rfl, rfl, DGet.k h, ?_⟩
      rcases look_rep (k := j) hk r3 with ⟨l1, l2⟩ | ⟨d, u, l1, l2, r4⟩
      · rw [l2]; rw [l1] at W; exact W.here S rfl
      · rw [l2]; rw [l1] at W; exact W.here S r4
    · exact W.not.elim
  · rename_i n kd d
    obtain ⟨y, _, rfl, r1, w, _, rfl, r2, rfl⟩ := r
    obtain ⟨p, rfl, h⟩ := ra
    split at W
    · rename_i ks us k q1 q2
      split at W
      · rename_i hl
        obtain ⟨p', h', c⟩ := S.of q1
        rw [h] at h'; cases h'
        obtain ⟨kvs, h2, hk, r3⟩ := c
        have ey := kyOf_rep q2 r1
        subst ey
        have hlen : kvs.length = ks.length := by
          have e := congrArg List.length hk
          rw [List.length_map, List.length_map] at e
          exact e
        refine ⟨p, w, kvs, kyK k, rfl, rfl, h2, by rw [hlen, line_eq]; exact hl, fun v hv => ?_, fun hn => ?_⟩
        · rcases look_rep (k := k) hk r3 with ⟨l1, l2⟩ | ⟨f, z, l1, l2, l3⟩
          · rw [l2] at hv; cases hv
          · rw [l2] at hv; cases hv
            rw [l1] at W
            exact W.here S l3
        · rcases look_rep (k := k) hk r3 with ⟨l1, l2⟩ | ⟨f, z, l1, l2, l3⟩
          · rw [l1] at W
            rw [putK_none hn]
            have L : Later H μ (upd H p (.dK (kvs ++ [(kyK k, w)]))) μ := Later.upd (List.mem_of_getElem? h)
            refine put_ok (d := d) (c := .dct (ks ++ [k]) (us ++ [d])) S h ⟨_, upd_same, by simp [hk], ?_⟩ (Rep.mono L _ _ r2) W
            rw [List.map_append]
            exact Reps.mono L _ _ (Reps.app r3 ⟨w, [], rfl, r2, rfl⟩)
          · rw [l2] at hn; cases hn
      · exact W.not.elim
    · exact W.not.elim
  · cases r
    obtain ⟨p, rfl, h⟩ := ra
    split at W
    · rename_i q
      obtain ⟨p', h', c⟩ := S.of q
      rw [h] at h'; cases h'
      obtain ⟨kvs, h2, _⟩ := c
      exact ⟨p, kvs, rfl, rfl, h2, put_ok (d := .non) (c := .dct [] []) S h ⟨[], upd_same, rfl, rfl⟩ rfl W⟩
    · exact W.not.elim
  · exact W.not.elim
end
end Rx

set_option Elab.async false
set_option linter.all false
set_option maxRecDepth 100000
set_option maxHeartbeats 4000000
set_option autoImplicit false
namespace Rx
open PySem L2 TL

/-! ### the check of codes against the text -/
structure Tab where
  fs : List Str
  gs : List (Str × D)
  bs : List Str
def visB (sc : Scope) (x : Str) : Bool := match sc.names.lookup x with
  | some .local => true
  | some .cell => true
  | some .free => true
  | _ => false
def locB (sc : Scope) (x : Str) : Bool := match sc.names.lookup x with
  | some .local => true
  | some .cell => true
  | _ => false
def glB (sc : Scope) (x : Str) : Bool := match sc.names.lookup x with
  | some .globalImplicit => true
  | _ => false
def nmB (x : Str) : Bool := !(x == ("__debug__" : Str)) && !(x == ("__classdict__" : Str)) && !(x == ("__name__" : Str))
def boOp : Bo → Operator
  | .add => .Add | .sub => .Sub | .mul => .Mult | .div => .FloorDiv | .mod => .Mod | .pow => .Pow | .shl => .LShift | .shr => .RShift | .band => .BitAnd | .bor => .BitOr
def coOp : Co → CmpOp
  | .eq => .Eq | .ne => .NotEq | .lt => .Lt | .le => .LtE | .gt => .Gt | .ge => .GtE | .isin => .In | .notin => .NotIn | .is => .Is | .isnot => .IsNot
def litB (d : D) (c : Const) : Bool := match d, c with
  | .non, .none => true
  | .bl a, .bool b => a == b
  | .int i, .int j => i == j
  | .str s, .str x => decide (x = Str.ofString s)
  | _, _ => false
def notStar : Expr → Bool
  | .Starred _ _ => false
  | _ => true
def notSet : Expr → Bool
  | .Set _ _ _ => false
  | _ => true
def notSlice : Expr → Bool
  | .Slice _ _ _ _ => false
  | _ => true
def notCall0 : Expr → Bool
  | .Call (.Name _ _) [] [] _ => false
  | _ => true
/-- an expression whose test is its value's truth -/
def plainT : Expr → Bool
  | .UnaryOp .Not _ _ => false
  | .BoolOp _ _ _ => false
  | .IfExp _ _ _ _ => false
  | .Compare _ _ _ _ => false
  | _ => true
def biN (b : Bi) : Str := (biS b).2
def meN : Me → String
  | .join => "join" | .partition => "partition" | .split => "split" | .count => "count" | .append => "append" | .extend => "extend" | .get1 => "get" | .get2 => "get" | .setdef => "setdefault" | .clear => "clear"
def meA : Me → Nat
  | .get2 | .setdef => 2
  | .clear => 0
  | _ => 1
def tgB (N : List Str) (sc : Scope) (t : Tg) (e : Expr) : Bool := match t, e with
  | .nm i, .Name x _ => decide (N[i]? = some x) && locB sc x
  | .tu is, .Tuple es _ _ => tgsB N sc is es
  | _, _ => false
where tgsB (N : List Str) (sc : Scope) : List Nat → List Expr → Bool
  | [], [] => true
  | i :: is, .Name x _ :: es => decide (N[i]? = some x) && locB sc x && tgsB N sc is es
  | _, _ => false
def tgS : Tg → List Nat
  | .nm i => [i]
  | .tu is => is
def ownOf (N : List Str) (own : List Nat) : List (Str × Nat) := own.map fun i => (N.getD i "", i)
def isTup : Expr → Bool
  | .Tuple _ _ _ => true
  | _ => false
section
variable (T : Tab) (N : List Str)
def callB (sc : Scope) (x : Str) : Bool := glB sc x && nmB x
mutual
def okE : E → Scope → Bool → Expr → Bool
  | .lit d, sc, t, e => match e with
    | .Constant c _ _ => litB d c
    | _ => false
  | .glo d, sc, t, e => match e with
    | .Name x _ => callB sc x && T.gs.any fun p => decide (p.1 = x) && D.same p.2 d
    | _ => false
  | .var i, sc, t, e => match e with
    | .Name x _ => decide (N[i]? = some x) && visB sc x && nmB x
    | _ => false
  | .bop o m a b, sc, t, e => match e with
    | .BinOp l op r _ => decide (op = boOp o) && okE a sc false l && okE b sc false r
    | _ => false
  | .neg a, sc, t, e => match e with
    | .UnaryOp .USub x _ => okE a sc false x
    | _ => false
  | .inot a, sc, t, e => match e with
    | .UnaryOp .Not x _ => okE a sc t x
    | _ => false
  | .tru a, sc, t, e => t && plainT e && okE a sc false e
  | .cmp o a b, sc, t, e => match e with
    | .Compare l [op] [r] _ => decide (op = coOp o) && notSet r && okE a sc false l && okE b sc false r
    | _ => false
  | .chn o p a b c, sc, t, e => match e with
    | .Compare l [op, op'] [r, r'] _ => decide (op = coOp o) && decide (op' = coOp p) && notSet r && notSet r' && okE a sc false l && okE b sc false r && okE c sc false r'
    | _ => false
  | .ands es, sc, t, e => match e with
    | .BoolOp .And vs _ => okEs es sc t vs
    | _ => false
  | .ors es, sc, t, e => match e with
    | .BoolOp .Or vs _ => okEs es sc t vs
    | _ => false
  | .ite c a b, sc, t, e => match e with
    | .IfExp x y z _ => !t && okE c sc true x && okE a sc false y && okE b sc false z
    | _ => false
  | .tup es, sc, t, e => match e with
    | .Tuple vs _ _ => okEs es sc false vs
    | _ => false
  | .lst m es, sc, t, e => match e with
    | .List vs _ => okEs es sc false vs
    | _ => false
  | .dct m es, sc, t, e => match e with
    | .Dict xs ys _ => okK es sc xs ys && decide (xs.length ≤ 15)
    | _ => false
  | .ix a i, sc, t, e => match e with
    | .Subscript x y _ => notSlice y && okE a sc false x && okE i sc false y
    | _ => false
  | .sl m a lo hi, sc, t, e => match e with
    | .Subscript x (.Slice l h none _) _ => okE a sc false x && okO lo sc l && okO hi sc h
    | _ => false
  | .call f es, sc, t, e => match e with
    | .Call (.Name x _) args [] _ => callB sc x && decide (T.fs[f]? = some x) && okEs es sc false args
    | _ => false
  | .bi b m es, sc, t, e => match e with
    | .Call (.Name x _) args [] _ => callB sc x && decide (x = biN b) && T.bs.contains x && !args.isEmpty && okEs es sc false args
    | _ => false
  | .isi a ty, sc, t, e => match e with
    | .Call (.Name x _) [y, .Name z _] [] _ => callB sc x && decide (x = ("isinstance" : Str)) && T.bs.contains x && callB sc z && decide (z = (tyS ty : Str)) && T.bs.contains z && notStar y && okE a sc false y
    | _ => false
  | .me f m o es, sc, t, e => match e with
    | .Call (.Attribute y x apos) args [] pos => decide (x = (meN f : Str)) && decide (args.length = meA f) && decide (apos.endLine = pos.line) && notCall0 y && okE o sc false y && okEs es sc false args
    | _ => false
  | .lc m elt tg it c own, sc, t, e => match e with
    | .ListComp y [⟨g, i, ifs, 0⟩] scope _ => blkC N sc scope (ownOf N own) && own.all (fun i => decide (i < N.length)) && (tgS tg).all (fun i => own.contains i) && tgB N (relS scope sc) tg g && tgB N scope tg g && notSet i && okI it sc g i &&
      okC c (relS scope sc) ifs && okE elt (relS scope sc) false y
    | _ => false
def okEs : Es → Scope → Bool → List Expr → Bool
  | .nil, _, _, es => es.isEmpty
  | .cons c cs, sc, t, es => match es with
    | e :: es => notStar e && okE c sc t e && okEs cs sc t es
    | [] => false
def okK : Es → Scope → List (Option Expr) → List Expr → Bool
  | .nil, _, xs, ys => xs.isEmpty && ys.isEmpty
  | .cons c .nil, _, _, _ => false
  | .cons c (.cons d r), sc, xs, ys => match xs, ys with
    | some x :: xs, y :: ys => okE c sc false x && okE d sc false y && okK r sc xs ys
    | _, _ => false
def okO : Oe → Scope → Option Expr → Bool
  | .non, _, e => e.isNone
  | .som c, sc, e => match e with
    | some e => okE c sc false e
    | none => false
def okC : Oe → Scope → List Expr → Bool
  | .non, _, es => es.isEmpty
  | .som c, sc, es => match es with
    | [e] => okE c sc true e
    | _ => false
def okI : I → Scope → Expr → Expr → Bool
  | .it c, sc, g, e => okE c sc false e
  | .rng c, sc, g, e => match e with
    | .Call (.Name x _) [a] [] _ => callB sc x && decide (x = ("range" : Str)) && T.bs.contains x && notStar a && okE c sc false a
    | _ => false
  | .rng2 c d, sc, g, e => match e with
    | .Call (.Name x _) [a, b] [] _ => callB sc x && decide (x = ("range" : Str)) && T.bs.contains x && notStar a && notStar b && okE c sc false a && okE d sc false b
    | _ => false
  | .enum c, sc, g, e => match e with
    | .Call (.Name x _) [a] [] _ => isTup g && callB sc x && decide (x = ("enumerate" : Str)) && T.bs.contains x && notStar a && okE c sc false a
    | _ => false
  | .zip c d, sc, g, e => match e with
    | .Call (.Name x _) [a, b] [] _ => isTup g && callB sc x && decide (x = ("zip" : Str)) && T.bs.contains x && notStar a && notStar b && okE c sc false a && okE d sc false b
    | _ => false
end
/-- what exchanges the stores of a comprehension's variables and of its target -/
def swapB (sc : Scope) (value : Expr) (t : Expr) (line : Nat) : Bool := match value with
  | .ListComp _ _ s _ => match t with
    | .Name x pos => (match sc.names.lookup x with | some .local => true | _ => false) && pos.line == value.pos.line && !(s.names.any fun (n, k) => n == x && (k == .local || k == .cell))
    | _ => false
  | _ => false
def notSC : Expr → Bool
  | .SetComp _ _ _ _ => false
  | .DictComp _ _ _ _ _ => false
  | _ => true
def notC : Expr → Bool
  | .ListComp _ _ _ _ => false
  | .SetComp _ _ _ _ => false
  | .DictComp _ _ _ _ _ => false
  | _ => true
/-- (a, b) = (c, d) is not one of ours -/
def notPair : Expr → Bool
  | .Tuple _ _ _ => false
  | .List _ _ => false
  | _ => true
mutual
def okS : S → Scope → Stmt → Bool
  | .ret c, sc, s => match s with
    | .Return (some e) _ => okE T N c sc false e
    | _ => false
  | .retN, sc, s => match s with
    | .Return none _ => true
    | _ => false
  | .expr c, sc, s => match s with
    | .Expr e _ => notC e && okE T N c sc false e
    | _ => false
  | .pass, sc, s => match s with
    | .Pass _ => true
    | _ => false
  | .asg tg c, sc, s => match s with
    | .Assign [g] e pos => (notC e || (swapB sc e g pos.line && (match sc.kind with | .function => true | _ => false))) && (match tg with | .nm _ => true | .tu _ => notPair e) && tgB N sc tg g && okE T N c sc false e
    | _ => false
  | .put o i c, sc, s => match s with
    | .Assign [.Subscript x y _] e _ => notC e && notSlice y && okE T N o sc false x && okE T N i sc false y && okE T N c sc false e
    | _ => false
  | .iff c a b, sc, s => match s with
    | .If t x y _ => okE T N c sc true t && okSs a sc x && okSs b sc y
    | _ => false
  | .for_ tg it b, sc, s => match s with
    | .For g i x [] _ => notSet i && tgB N sc tg g && okI T N it sc g i && okSs b sc x
    | _ => false
def okSs : Ss → Scope → List Stmt → Bool
  | .nil, _, ss => ss.isEmpty
  | .cons s r, sc, ss => match ss with
    | x :: xs => okS s sc x && okSs r sc xs
    | [] => false
end
end
end Rx

set_option Elab.async false
set_option linter.all false
set_option maxRecDepth 100000
set_option maxHeartbeats 4000000
set_option autoImplicit false
namespace Rx
open PySem L2 TL

/-! ### the context -/
/-- a def's promise: what the interpreter says -/
def spF (K : PySem.W.Frag) (C : CallF) (f n : Nat) : Sp := fun vs H Q _ => ∃ B μ st ds, B.K = K ∧ StOk B H μ st ∧ Reps B H μ ds vs ∧ vs.length = n ∧ Wd B H μ repD (C f ds st) Q
structure Good (T : Tab) (C : CallF) (k : Nat) (X : Cx) : Prop where
  nd : X.N.Nodup
  calm : X.calm = true
  room : Room k X.A
  bs : ∀ x, T.bs.contains x = true → X.mg x = none
  gs : ∀ x d, (x, d) ∈ T.gs → ∃ u v, X.mg x = some u ∧ RelV v u ∧ ∀ B H μ, B.K = X.K → Rep B H μ d v
  fs : ∀ (f : Nat) x, T.fs[f]? = some x → ∃ fa fd ps, X.mg x = some (.ref fa) ∧ PySem.W.keepIn X.K (.ref fa) = true ∧ Binds X.K fd ps [] ∧ (∀ ds st, C f ds st ≠ .no → ds.length = ps.length) ∧ FnOk X.prog X.w X.K X.mg X.base CX0 k fa fd ps (spF X.K C f ps.length)
section
variable {T : Tab} {C : CallF} {k : Nat} {X : Cx}
theorem Good.blk (G : Good T C k X) (s : Shared) (H : Hp) (scope : Scope) (cenv : PySem.Env) (fp : List Addr) : Good T C k (X.blk s H scope cenv fp) := ⟨G.nd, G.calm, G.room, G.bs, G.gs, G.fs⟩
theorem Good.u (G : Good T C k X) : X.A.units + 200 < cLine := by
  have := G.room.un
  omega
def tE (K : PySem.W.Frag) (C : CallF) (c : E) : TE := tR K repD fun ρ st => evE C ρ c st
def tT (K : PySem.W.Frag) (C : CallF) (c : E) : TT := tR K repB fun ρ st => (evE C ρ c st).bind boolOf
def tEs (K : PySem.W.Frag) (C : CallF) (cs : Es) : TA := tR K repDs fun ρ st => evEs C ρ cs st
theorem PE.imp {e : Expr} {t t' : TE} (h : PE X e t) (i : ∀ σ H Q, t' σ H Q → t σ H Q) : PE X e t' := ⟨fun pins s σ H Q I w => h.run pins s σ H Q I (i _ _ _ w)⟩
theorem PT.imp {e : Expr} {t t' : TT} (h : PT X e t) (i : ∀ σ H Q, t' σ H Q → t σ H Q) : PT X e t' := ⟨fun pins s σ H Q I w => h.run pins s σ H Q I (i _ _ _ w)⟩
theorem PW.imp {e : Expr} {t t' : TT} (h : PW X e t) (i : ∀ σ H Q, t' σ H Q → t σ H Q) : PW X e t' := ⟨fun wh pins s σ H Q I w => h.run wh pins s σ H Q I (i _ _ _ w)⟩
theorem PA.imp {e : List Expr} {t t' : TA} (h : PA X e t) (i : ∀ σ H Q, t' σ H Q → t σ H Q) : PA X e t' := ⟨fun pos pins s σ H Q I w => h.run pos pins s σ H Q I (i _ _ _ w)⟩
theorem PS.imp {e : Stmt} {t t' : TS} (h : PS X e t) (i : ∀ D σ H, t' D σ H → t D σ H) : PS X e t' := ⟨fun pins s σ H D I w => h.run pins s σ H D I (i _ _ _ w)⟩
theorem PSs.imp {e : List Stmt} {t t' : TS} (h : PSs X e t) (i : ∀ D σ H, t' D σ H → t D σ H) : PSs X e t' := ⟨fun pins s σ H D I w => h.run pins s σ H D I (i _ _ _ w)⟩
theorem PI.imp {tg e : Expr} {t t' : TI} (h : PI X tg e t) (i : ∀ σ H Q, t' σ H Q → t σ H Q) : PI X tg e t' := ⟨fun pins s σ H Q I w => h.run pins s σ H Q I (i _ _ _ w)⟩
end
section
variable {α β γ δ : Type} {R : RR α β} {R' : RR γ δ} {K : PySem.W.Frag} {B : Bg} {H : Hp} {μ : List Addr} {ρ : Slots} {σ : L2.St} {st : Store} {Q : δ → Hp → Prop} {P : β → Hp → Prop} {f : Slots → Store → Rx.Res α} {g : α → Store → Rx.Res γ}
theorem go (f : Slots → Store → Rx.Res α) (hB : B.K = K) (N : Now B H μ ρ σ st) (W : Wd B H μ R' ((f ρ st).bind g) Q)
    (k : ∀ μ1 st1 d x H1, Later H μ H1 μ1 → Now B H1 μ1 ρ σ st1 → R B H1 μ1 d x → Wd B H1 μ1 R' (g d st1) Q → P x H1) : tR K R f σ H P :=
  ⟨B, μ, ρ, st, hB, N, W.seq.imp fun x H1 ⟨μ1, d, st1, L, S, r, W⟩ => k μ1 st1 d x H1 L (N.later L S) r W⟩
end

section
variable {T : Tab} {C : CallF} {k : Nat} {X : Cx} {e e1 e2 e3 : Expr} {a b c : E} {pos : Pos}
/-! ### small checks -/
theorem vis_of {sc : Scope} {x : Str} (h : visB sc x = true) : Vis sc x := by
  unfold visB at h
  unfold Vis
  split at h <;> simp_all
theorem loc_of {sc : Scope} {x : Str} (h : locB sc x = true) (h' : True := trivial) : L2.Loc sc x := by
  unfold locB at h
  unfold L2.Loc
  split at h <;> simp_all
theorem gl_of {x : Str} (h : glB X.env.scope x = true) : Gl X x := by
  unfold glB at h
  show X.env.scope.names.lookup x = _
  split at h <;> simp_all
theorem nm_of {x : Str} (h : nmB x = true) : (x == ("__debug__" : Str)) = false ∧ (x == ("__classdict__" : Str)) = false ∧ x ≠ "__name__" := by
  unfold nmB at h
  rw [Bool.and_eq_true, Bool.and_eq_true] at h
  refine ⟨by simpa using h.1.1, by simpa using h.1.2, fun z => ?_⟩
  have := h.2
  rw [z] at this
  simp at this
theorem call_of {x : Str} (h : callB X.env.scope x = true) : Gl X x ∧ (x == ("__debug__" : Str)) = false ∧ x ≠ "__name__" := by
  unfold callB at h
  rw [Bool.and_eq_true] at h
  exact ⟨gl_of h.1, (nm_of h.2).1, (nm_of h.2).2.2⟩
theorem star_of {es : List Expr} (h : notStar e = true) : starEach (e :: es) X.env = (false, eval e X.env) :: starEach es X.env := by
  cases e <;> first | rfl | cases h
def noStars : List Expr → Bool
  | [] => true
  | e :: es => notStar e && noStars es
theorem plain_of (pos : Pos) : ∀ {es : List Expr}, noStars es = true → (backTo pos (starEach es X.env)).any (·.1) = false
  | [], _ => by simp [starEach, backTo]
  | e :: es, h => by
    unfold noStars at h
    rw [Bool.and_eq_true] at h
    have ih := plain_of pos h.2
    rw [star_of h.1]
    simp only [backTo, List.map_cons, List.any_cons, Bool.false_or] at ih ⊢
    exact ih
theorem few_of (pos : Pos) : ∀ {es : List Expr}, noStars es = true → (backTo pos (starEach es X.env)).all (fun x => !x.1) = true
  | [], _ => by simp [starEach, backTo]
  | e :: es, h => by
    unfold noStars at h
    rw [Bool.and_eq_true] at h
    have ih := few_of pos h.2
    rw [star_of h.1]
    simp only [backTo, List.map_cons, List.all_cons, Bool.not_false, Bool.true_and] at ih ⊢
    exact ih
theorem trees_of (pos : Pos) : ∀ {es : List Expr}, noStars es = true → backTo pos (starEach es X.env) = es.map fun e => (false, eval e X.env)
  | [], _ => by simp [starEach, backTo]
  | e :: es, h => by
    unfold noStars at h
    rw [Bool.and_eq_true] at h
    have ih := trees_of pos h.2
    rw [star_of h.1]
    simp only [backTo, List.map_cons] at ih ⊢
    rw [ih]; rfl
theorem base_of {x : Str} (h : notCall0 e = true) : attributeBase e x X.env (eval e X.env) = eval e X.env := by
  cases e with
  | Call f as ks p =>
    cases f <;> first
      | rfl
      | (cases as with
        | cons _ _ => rfl
        | nil => cases ks with
          | cons _ _ => rfl
          | nil => cases h)
  | _ => rfl
theorem mark_of (op : CmpOp) (h : notSet e = true) : behindInMarks op e = false := by
  cases e <;> first | rfl | cases h
theorem test_of (h : plainT e = true) : ∀ whole, isTrue e X.env whole = (do let v ← whole; standAt e.pos; holding [v] (truthy v)) := by
  intro w
  cases e with
  | UnaryOp o x p => cases o <;> first | rfl | cases h
  | _ => first | rfl | cases h
theorem ix_of (h : notSlice e = true) : PlainIx e := by
  intro o i
  cases e <;> first | rfl | cases h
theorem swap_none {line : Nat} {t : Option Expr} (h : notC e = true) : swapsWith e t line X.env = pure false := by
  cases e <;> first | rfl | cases h
theorem fold_of (h : notSet e = true) : ∀ x, foldedSetIterable e X.env x = pure x := by
  intro x
  cases e <;> first | rfl | cases h

/-! ### expressions -/
/-- what a code's check gives: as a value, as a test -/
def Snd (X : Cx) (C : CallF) (t : Bool) (c : E) (e : Expr) : Prop := (t = false → PE X e (tE X.K C c)) ∧ (t = true → PT X e (tT X.K C c))
theorem toB {B : Bg} {H : Hp} {μ : List Addr} {d : D} {st : Store} {x : V} {Q : Bool → Hp → Prop} (S : StOk B H μ st) (r : Rep B H μ d x) (W : Wd B H μ repB (boolOf d st) Q) : ∃ k, d = .bl k ∧ x = .bl k ∧ Q k H := by
  unfold boolOf at W
  split at W
  · cases r
    exact ⟨_, rfl, rfl, W.here S rfl⟩
  · exact W.not.elim
/-- an expression whose test is its value's, a bool -/
theorem Snd.plain {t : Bool} {c : E} (hp : plainT e = true) (h : PE X e (tE X.K C c)) : Snd X C t c e := by
  refine ⟨fun _ => h, fun _ => PT.imp (pt_val h (test_of hp)) fun σ H Q ⟨B, μ, ρ, st, hB, N, W⟩ => ?_⟩
  refine go (R := repD) (fun ρ st => evE C ρ c st) hB N W fun μ1 st1 d x H1 L N1 r W => ?_
  obtain ⟨k, _, h2, q⟩ := toB N1.st r W
  exact ⟨k, h2, q⟩
theorem snd_lit {t : Bool} {d : D} {cst : Const} {j : Nat} (h : litB d cst = true) : Snd X C t (.lit d) (.Constant cst j pos) := by
  refine Snd.plain rfl ?_
  have key : ∀ v, PE X (.Constant cst j pos) (tC v) → (∀ B H μ, Rep B H μ d v) → PE X (.Constant cst j pos) (tE X.K C (.lit d)) := fun v p r =>
    PE.imp p fun σ H Q ⟨B, μ, ρ, st, hB, N, W⟩ => W.here N.st (r _ _ _)
  cases d <;> cases cst <;> first | (cases h; done) | skip
  · exact key _ pe_non fun _ _ _ => rfl
  · cases (beq_iff_eq.mp h : _ = _); exact key _ pe_bl fun _ _ _ => rfl
  · cases (beq_iff_eq.mp h : _ = _); exact key _ pe_int fun _ _ _ => rfl
  · have e := of_decide_eq_true h
    subst e
    exact key _ pe_str fun _ _ _ => rfl
theorem snd_var {t : Bool} {i : Nat} {x : Str} (h1 : X.N[i]? = some x) (h2 : visB X.env.scope x = true) (h3 : nmB x = true) : Snd X C t (.var i) (.Name x pos) := by
  refine Snd.plain rfl ?_
  refine PE.imp (pe_var h1 (vis_of h2) (nm_of h3).1 (nm_of h3).2.1) fun σ H Q ⟨B, μ, ρ, st, hB, N, W⟩ => ?_
  simp only [evE] at W
  split at W
  · rename_i d q
    obtain ⟨v, h, r⟩ := N.sl i d q
    exact ⟨v, h, W.here N.st r⟩
  · exact W.not.elim
theorem snd_glo {t : Bool} {d : D} {x : Str} (G : Good T C k X) (h1 : callB X.env.scope x = true) (h2 : (x, d) ∈ T.gs) : Snd X C t (.glo d) (.Name x pos) := by
  refine Snd.plain rfl ?_
  obtain ⟨u, v, hm, r, rep⟩ := G.gs x d h2
  obtain ⟨g1, g2, g3⟩ := call_of h1
  refine PE.imp (pe_glob g1 hm r g2) fun σ H Q ⟨B, μ, ρ, st, hB, N, W⟩ => ?_
  simp only [evE] at W
  exact W.here N.st (rep B H μ hB)
/-- an operator by its rule -/
theorem pe_bin {o : Bo} {m : Bool} {r : R2} (ho : OpR X (binaryOp (boOp o)) r)
    (hr : ∀ {B : Bg} {H : Hp} {μ : List Addr} {st : Store} {a b : D} {x y : V} {Q : VK}, B.K = X.K → StOk B H μ st → Rep B H μ a x → Rep B H μ b y → Wd B H μ repD (bop o m a b st) Q → r x y H Q)
    (ha : PE X e1 (tE X.K C a)) (hb : PE X e2 (tE X.K C b)) : PE X (.BinOp e1 (boOp o) e2 pos) (tE X.K C (.bop o m a b)) := by
  refine PE.imp (pe_op ho ha hb) fun σ H Q ⟨B, μ, ρ, st, hB, N, W⟩ => ?_
  simp only [evE] at W
  refine go (R := repD) (fun ρ st => evE C ρ a st) hB N W fun μ1 st1 d x H1 L N1 ra W => ?_
  refine go (R := repD) (fun ρ st => evE C ρ b st) hB N1 W fun μ2 st2 d2 y H2 L2 N2 rb W => ?_
  exact hr hB N2.st (Rep.mono L2 _ _ ra) rb W
theorem snd_bop {o : Bo} {m t : Bool} (ha : PE X e1 (tE X.K C a)) (hb : PE X e2 (tE X.K C b)) : Snd X C t (.bop o m a b) (.BinOp e1 (boOp o) e2 pos) := by
  refine Snd.plain rfl ?_
  cases o with
  | add => exact pe_bin (o := .add) op_addX (fun hB S ra rb W => hB ▸ add_ok S ra rb W) ha hb
  | sub => exact pe_bin (o := .sub) op_sub (fun hB S ra rb W => sub_ok S ra rb W) ha hb
  | mul => exact pe_bin (o := .mul) op_mulX (fun hB S ra rb W => hB ▸ mul_ok S ra rb W) ha hb
  | div => exact pe_bin (o := .div) op_fdiv (fun hB S ra rb W => div_ok S ra rb W) ha hb
  | mod => exact pe_bin (o := .mod) op_mod (fun hB S ra rb W => mod_ok S ra rb W) ha hb
  | pow => exact pe_bin (o := .pow) op_pow (fun hB S ra rb W => pow_ok S ra rb W) ha hb
  | shl => exact pe_bin (o := .shl) op_shl (fun hB S ra rb W => shl_ok S ra rb W) ha hb
  | shr => exact pe_bin (o := .shr) op_shr (fun hB S ra rb W => shr_ok S ra rb W) ha hb
  | band => exact pe_bin (o := .band) op_and (fun hB S ra rb W => by
      obtain ⟨i, j, h1, h2, k, e, q⟩ := int2 (by decide) (by decide) S ra rb W
      cases e) ha hb
  | bor => exact pe_bin (o := .bor) op_or (fun hB S ra rb W => by
      obtain ⟨i, j, h1, h2, k, e, q⟩ := int2 (by decide) (by decide) S ra rb W
      cases e) ha hb
theorem snd_neg {t : Bool} (ha : PE X e1 (tE X.K C a)) : Snd X C t (.neg a) (.UnaryOp .USub e1 pos) := by
  refine Snd.plain rfl ?_
  refine PE.imp (pe_un un_neg ha) fun σ H Q ⟨B, μ, ρ, st, hB, N, W⟩ => ?_
  simp only [evE] at W
  refine go (R := repD) (fun ρ st => evE C ρ a st) hB N W fun μ1 st1 d x H1 L N1 ra W => ?_
  split at W
  · cases ra
    exact ⟨_, rfl, W.here N1.st rfl⟩
  · exact W.not.elim
theorem seqB {B : Bg} {H : Hp} {μ : List Addr} {r : Rx.Res D} {β γ : Type} {R' : RR β γ} {g : Bool → Store → Rx.Res β} {Q : γ → Hp → Prop} (W : Wd B H μ R' ((r.bind boolOf).bind g) Q) : ∃ z, Wd B H μ R' (r.bind fun d st => (boolOf d st).bind g) Q ∧ z = () := by
  refine ⟨(), ?_, rfl⟩
  cases r <;> exact W
theorem snd_not {t : Bool} (h : Snd X C t a e1) : Snd X C t (.inot a) (.UnaryOp .Not e1 pos) := by
  refine ⟨fun ht => ?_, fun ht => ?_⟩
  · refine PE.imp (pe_not (h.1 ht)) fun σ H Q ⟨B, μ, ρ, st, hB, N, W⟩ => ?_
    simp only [evE] at W
    obtain ⟨_, W, _⟩ := seqB W
    refine go (R := repD) (fun ρ st => evE C ρ a st) hB N W fun μ1 st1 d x H1 L N1 ra W => ?_
    unfold boolOf at W
    split at W
    · cases ra
      exact ⟨_, rfl, W.here N1.st rfl⟩
    · exact W.not.elim
  · refine PT.imp (pt_not (h.2 ht)) fun σ H Q ⟨B, μ, ρ, st, hB, N, W⟩ => ?_
    simp only [evE] at W
    have W2 : Wd B H μ repB (((evE C ρ a st).bind boolOf).bind fun b st => .ok (!b) st) Q := by
      cases hz : (evE C ρ a st).bind boolOf with
      | no => rw [hz] at W; exact W.not.elim
      | ok d st1 => rw [hz] at W; exact W
    refine go (R := repB) (fun ρ st => (evE C ρ a st).bind boolOf) hB N W2 fun μ1 st1 d x H1 L N1 ra W => ?_
    cases ra
    exact W.here N1.st rfl
end
end Rx

set_option Elab.async false
set_option linter.all false
set_option maxRecDepth 100000
set_option maxHeartbeats 4000000
set_option autoImplicit false
namespace Rx
open PySem L2 TL

/-! ### what is walked -/
mutual
theorem same_eq : ∀ a b : D, D.same a b = true → a = b
  | .non, b, h => by cases b <;> first | rfl | cases h
  | .bl x, b, h => by cases b <;> first | (cases h; done) | (simp only [D.same, beq_iff_eq] at h; rw [h])
  | .int x, b, h => by cases b <;> first | (cases h; done) | (simp only [D.same, beq_iff_eq] at h; rw [h])
  | .str x, b, h => by cases b <;> first | (cases h; done) | (simp only [D.same, beq_iff_eq] at h; rw [h])
  | .tup xs, b, h => by cases b <;> first | (cases h; done) | (simp only [D.same] at h; rw [sameAll_eq _ _ h])
  | .lst xs, b, h => by cases b <;> first | (cases h; done) | (simp only [D.same] at h; rw [sameAll_eq _ _ h])
  | .ro xs, b, h => by cases b <;> first | (cases h; done) | (simp only [D.same] at h; rw [sameAll_eq _ _ h])
  | .dct ks xs, b, h => by
    cases b <;> first | (cases h; done) | skip
    simp only [D.same, Bool.and_eq_true, decide_eq_true_eq] at h
    rw [h.1, sameAll_eq _ _ h.2]
  | .loc n, b, h => by cases b <;> first | (cases h; done) | (simp only [D.same, beq_iff_eq] at h; rw [h])
theorem sameAll_eq : ∀ a b : List D, D.sameAll a b = true → a = b
  | [], [], _ => rfl
  | [], _ :: _, h => by cases h
  | _ :: _, [], h => by cases h
  | x :: xs, y :: ys, h => by
    simp only [D.sameAll, Bool.and_eq_true] at h
    rw [same_eq x y h.1, sameAll_eq xs ys h.2]
end
/-- a list to be walked, with the place that must not change -/
def IsL (d : D) (xs : List D) (ats : List (Nat × List D)) : Prop := (d = .lst xs ∧ ats = []) ∨ (d = .ro xs ∧ ats = []) ∨ ∃ n, d = .loc n ∧ ats = [(n, xs)]
inductive Wk (B : Bg) (H : Hp) (μ : List Addr) : Walked → It → Prop where
  | tup {xs : List D} {a : Addr} (r : Rep B H μ (.tup xs) (.ref a)) : Wk B H μ ⟨xs, []⟩ (Itt B.K a)
  | lst {d : D} {xs : List D} {ats : List (Nat × List D)} {a : Addr} (i : IsL d xs ats) (r : Rep B H μ d (.ref a)) : Wk B H μ ⟨xs, ats⟩ (Itl B.K a)
  | str (s : String) : Wk B H μ ⟨s.toList.map fun c => .str (String.ofList [c]), []⟩ (Its (Str.ofString s))
  | rang (i j : Int) : Wk B H μ ⟨rng i j, []⟩ (Itr i (j - i).toNat)
  | enum {d : D} {xs : List D} {ats : List (Nat × List D)} {a : Addr} (i : IsL d xs ats) (r : Rep B H μ d (.ref a)) : Wk B H μ ⟨enumL 0 xs, ats⟩ (Ite B.K a)
  | enumT {xs : List D} {a : Addr} (r : Rep B H μ (.tup xs) (.ref a)) : Wk B H μ ⟨enumL 0 xs, []⟩ (IteT B.K a)
  | zipT {xs ys : List D} {a b : Addr} (r : Rep B H μ (.tup xs) (.ref a)) (s : Rep B H μ (.tup ys) (.ref b)) : Wk B H μ ⟨zipL xs ys, []⟩ (RZ.ItzT B.K a b)
  | zipL {d f : D} {xs ys : List D} {us vs : List (Nat × List D)} {a b : Addr} (i : IsL d xs us) (r : Rep B H μ d (.ref a)) (j : IsL f ys vs) (s : Rep B H μ f (.ref b)) : Wk B H μ ⟨zipL xs ys, us ++ vs⟩ (Itz B.K a b)
def repW : RR Walked It := fun B H μ w J => Wk B H μ w J
section
variable {B B' : Bg} {H H' : Hp} {μ μ' : List Addr} {st : Store} {w : Walked} {J : It}
theorem Wk.tran (t : Tran B H μ B' H' μ') (h : Wk B H μ w J) : Wk B' H' μ' w J := by
  cases h with
  | tup r => rw [← t.k]; exact .tup (Rep.tran t _ _ r)
  | lst i r => rw [← t.k]; exact .lst i (Rep.tran t _ _ r)
  | str s => exact .str s
  | rang i j => exact .rang i j
  | enum i r => rw [← t.k]; exact .enum i (Rep.tran t _ _ r)
  | enumT r => rw [← t.k]; exact .enumT (Rep.tran t _ _ r)
  | zipT r s => rw [← t.k]; exact .zipT (Rep.tran t _ _ r) (Rep.tran t _ _ s)
  | zipL i r j s => rw [← t.k]; exact .zipL i (Rep.tran t _ _ r) j (Rep.tran t _ _ s)
theorem lst_at {d : D} {xs : List D} {ats more : List (Nat × List D)} {a : Addr} (i : IsL d xs ats) (r : Rep B H μ d (.ref a)) (S : StOk B H μ st) (g : guardL st (ats ++ more) = true) : ∃ vs, SqL B.K H a vs ∧ Reps B H μ xs vs ∧ guardL st more = true := by
  rcases i with ⟨rfl, rfl⟩ | ⟨rfl, rfl⟩ | ⟨n, rfl, rfl⟩
  · obtain ⟨p, vs, h1, h2, h3⟩ := lro_rep (st := st) (xs := xs) S rfl r
    cases h1
    exact ⟨vs, h2, h3, g⟩
  · obtain ⟨p, vs, h1, h2, h3⟩ := lro_rep (st := st) (xs := xs) S rfl r
    cases h1
    exact ⟨vs, h2, h3, g⟩
  · obtain ⟨p, h1, h⟩ := r
    cases h1
    simp only [List.singleton_append, guardL, Bool.and_eq_true] at g
    obtain ⟨g1, g2⟩ := g
    split at g1
    · rename_i ys q
      have e := sameAll_eq _ _ g1
      subst e
      obtain ⟨a', h', c⟩ := S.of q
      rw [h] at h'; cases h'
      obtain ⟨vs, h2, h3⟩ := c
      exact ⟨vs, SqL.of h2, h3, g2⟩
    · cases g1
theorem rng_length (i j : Int) : (rng i j).length = (j - i).toNat := by unfold rng; rw [List.length_map, List.length_range]
theorem rng_at {i j : Int} {n : Nat} (h : n < (j - i).toNat) : (rng i j)[n]? = some (.int (i + (n : Int))) := by
  unfold rng
  rw [List.getElem?_map, List.getElem?_range h]; rfl
theorem enumL_length : ∀ (k : Nat) (xs : List D), (enumL k xs).length = xs.length
  | _, [] => rfl
  | k, x :: xs => by rw [enumL, List.length_cons, List.length_cons, enumL_length]
theorem enumL_at : ∀ (k : Nat) (xs : List D) (i : Nat), (enumL k xs)[i]? = xs[i]?.map fun d => .tup [.int ((k + i : Nat) : Int), d]
  | _, [], i => by simp [enumL]
  | k, x :: xs, 0 => by simp [enumL]
  | k, x :: xs, i + 1 => by
    rw [enumL, List.getElem?_cons_succ, List.getElem?_cons_succ, enumL_at (k + 1) xs i]
    congr 1
    funext d
    rw [show k + 1 + i = k + (i + 1) by omega]
theorem zipL_length : ∀ (xs ys : List D), (zipL xs ys).length = min xs.length ys.length
  | [], ys => by simp [zipL]
  | x :: xs, [] => by simp [zipL]
  | x :: xs, y :: ys => by
    rw [zipL, List.length_cons, List.length_cons, List.length_cons, zipL_length]; omega
theorem zipL_at : ∀ (xs ys : List D) (i : Nat) (x y : D), xs[i]? = some x → ys[i]? = some y → (zipL xs ys)[i]? = some (.tup [x, y])
  | [], _, i, _, _, h, _ => by simp at h
  | _ :: _, [], i, _, _, _, h => by simp at h
  | x :: xs, y :: ys, 0, _, _, h, h' => by simp at h h'; subst h h'; simp [zipL]
  | x :: xs, y :: ys, i + 1, a, b, h, h' => by
    rw [zipL, List.getElem?_cons_succ]
    exact zipL_at xs ys i a b (by simpa using h) (by simpa using h')
theorem pair_new (S : StOk B H μ st) {T : Addr} {d f : D} {x y : V} (h : H T = none) (r : Rep B H μ d x) (s : Rep B H μ f y) :
    Later H μ (upd H T (.tup [x, y])) μ ∧ StOk B (upd H T (.tup [x, y])) μ st ∧ Rep B (upd H T (.tup [x, y])) μ (.tup [d, f]) (.ref T) :=
  ⟨Later.new h, S.new h, T, _, rfl, .inl ⟨S.fresh h, .inl upd_same⟩, _, _, rfl, Rep.mono (Later.new h) _ _ r, _, _, rfl, Rep.mono (Later.new h) _ _ s, rfl⟩
theorem get_len {xs : List D} {vs : List V} (r : Reps B H μ xs vs) {i : Nat} (h : i < xs.length) : ∃ d v, xs[i]? = some d ∧ vs[i]? = some v ∧ Rep B H μ d v := by
  obtain ⟨v, h1, h2⟩ := r.get (List.getElem?_eq_getElem h)
  exact ⟨_, v, List.getElem?_eq_getElem h, h1, h2⟩
/-- a turn -/
theorem Wk.turn (h : Wk B H μ w J) (S : StOk B H μ st) (g : guard w st = true) : (∀ i, i < w.xs.length → J.go i H) ∧ J.stop w.xs.length H ∧
    ∀ i x H2, i < w.xs.length → J.yld i H x H2 → ∃ d, w.xs[i]? = some d ∧ Later H μ H2 μ ∧ StOk B H2 μ st ∧ Rep B H2 μ d x := by
  unfold guard at g
  cases h with
  | @tup xs a r =>
    obtain ⟨p, vs, e, hs, r2⟩ := sqT_of r
    cases e
    have W := walk_tup (K := B.K) (a := a) (xs := vs)
    have n : vs.length = xs.length := r2.length
    refine ⟨fun i hi => W.goes i H (by rw [n]; exact hi) hs, by show (Itt B.K a).stop xs.length H; rw [← n]; exact W.stops H hs, fun i x H2 hi y => ?_⟩
    obtain ⟨e, hx⟩ := W.yields i H x H2 (by rw [n]; exact hi) hs y
    subst e
    obtain ⟨d, v, h1, h2, h3⟩ := get_len r2 hi
    rw [hx] at h2; cases h2
    exact ⟨d, h1, Later.refl, S, h3⟩
  | @lst d xs ats a i r =>
    obtain ⟨vs, hs, r2, _⟩ := lst_at (more := []) i r S (by rw [List.append_nil]; exact g)
    have W := walk_list (K := B.K) (a := a) (xs := vs)
    have n : vs.length = xs.length := r2.length
    refine ⟨fun i hi => W.goes i H (by rw [n]; exact hi) hs, by show (Itl B.K a).stop xs.length H; rw [← n]; exact W.stops H hs, fun i x H2 hi y => ?_⟩
    obtain ⟨e, hx⟩ := W.yields i H x H2 (by rw [n]; exact hi) hs y
    subst e
    obtain ⟨d, v, h1, h2, h3⟩ := get_len r2 hi
    rw [hx] at h2; cases h2
    exact ⟨d, h1, Later.refl, S, h3⟩
  | str s =>
    have W := walk_str (z := Str.ofString s)
    have n : (Str.ofString s).cps.size = (s.toList.map fun c => D.str (String.ofList [c])).length := by
      rw [← Array.length_toList, cps_s, List.length_map, List.length_map]
    refine ⟨fun i hi => W.goes i H (by rw [n]; exact hi) trivial, by show (Its _).stop (List.length _) H; rw [← n]; exact W.stops H trivial, fun i x H2 hi y => ?_⟩
    obtain ⟨e, c, hc, hx⟩ := W.yields i H x H2 (by rw [n]; exact hi) trivial y
    subst e hx
    rw [← Array.getElem?_toList, cps_s, List.getElem?_map] at hc
    cases q : s.toList[i]? with
    | none => rw [q] at hc; cases hc
    | some k =>
      rw [q] at hc; cases hc
      refine ⟨.str (String.ofList [k]), ?_, Later.refl, S, ?_⟩
      · show (s.toList.map _)[i]? = _
        rw [List.getElem?_map, q]; rfl
      · show _ = _
        rw [sign_s]
  | rang lo hi =>
    have W := walk_range (lo := lo) (n := (hi - lo).toNat)
    refine ⟨fun i h => W.goes i H (by rw [rng_length] at h; exact h) trivial, by show (Itr _ _).stop (rng lo hi).length H; rw [rng_length]; exact W.stops H trivial, fun i x H2 h y => ?_⟩
    rw [rng_length] at h
    obtain ⟨e, hx⟩ := W.yields i H x H2 h trivial y
    subst e hx
    exact ⟨_, rng_at h, Later.refl, S, rfl⟩
  | @enum d xs ats a i r =>
    obtain ⟨vs, hs, r2, _⟩ := lst_at (more := []) i r S (by rw [List.append_nil]; exact g)
    have W := walk_enum (K := B.K) (a := a) (xs := vs)
    have n : vs.length = xs.length := r2.length
    refine ⟨fun i hi => W.goes i H (by rw [enumL_length] at hi; rw [n]; exact hi) hs, by show (Ite B.K a).stop (enumL 0 xs).length H; rw [enumL_length, ← n]; exact W.stops H hs, fun i x H2 hi y => ?_⟩
    rw [enumL_length] at hi
    obtain ⟨T, u, v, rfl, hT, rfl, h1, h2⟩ := W.yields i H x H2 (by rw [n]; exact hi) hs y
    obtain ⟨d, v', h3, h4, h5⟩ := get_len r2 hi
    have h2 : vs[i]? = some v := h2
    rw [h2] at h4; cases h4
    cases h1
    obtain ⟨q1, q2, q3⟩ := pair_new (d := .int (i : Nat)) S hT rfl h5
    refine ⟨_, ?_, q1, q2, q3⟩
    rw [enumL_at, h3]
    simp
  | @enumT xs a r =>
    obtain ⟨p, vs, e, hs, r2⟩ := sqT_of r
    cases e
    have n : vs.length = xs.length := r2.length
    refine ⟨fun i hi => ?_, ?_, fun i x H2 hi y => ?_⟩
    · rw [enumL_length] at hi
      exact ⟨vs, vs[i]'(by omega), hs, List.getElem?_eq_getElem (by omega)⟩
    · show (IteT B.K a).stop (enumL 0 xs).length H
      rw [enumL_length, ← n]
      exact ⟨vs, hs, Nat.le_refl _⟩
    · rw [enumL_length] at hi
      obtain ⟨T, v, rfl, hT, rfl, h2⟩ := y
      obtain ⟨d, v', h3, h4, h5⟩ := get_len r2 hi
      rw [h2 vs hs] at h4; cases h4
      obtain ⟨q1, q2, q3⟩ := pair_new (d := .int (i : Nat)) S hT rfl h5
      refine ⟨_, ?_, q1, q2, q3⟩
      rw [enumL_at, h3]
      simp
  | @zipT xs ys a b r s =>
    obtain ⟨p, vs, e, hs, r2⟩ := sqT_of r
    cases e
    obtain ⟨p, ws, e, hs', r2'⟩ := sqT_of s
    cases e
    have n : vs.length = xs.length := r2.length
    have n' : ws.length = ys.length := r2'.length
    refine ⟨fun i hi => ?_, ?_, fun i x H2 hi y => ?_⟩
    · rw [zipL_length] at hi
      obtain ⟨_, v, _, h1, _⟩ := get_len r2 (show i < xs.length by omega)
      obtain ⟨_, v', _, h1', _⟩ := get_len r2' (show i < ys.length by omega)
      exact ⟨vs, ws, v, v', hs, hs', h1, h1'⟩
    · rw [zipL_length]
      exact ⟨vs, ws, hs, hs', by omega⟩
    · rw [zipL_length] at hi
      obtain ⟨T, u, z, rfl, hT, rfl, h1, h2⟩ := y
      obtain ⟨d, v, h3, h4, h5⟩ := get_len r2 (show i < xs.length by omega)
      obtain ⟨d', v', h3', h4', h5'⟩ := get_len r2' (show i < ys.length by omega)
      have k1 := h1 vs hs
      have k2 := h2 ws hs'
      rw [k1] at h4; cases h4
      rw [k2] at h4'; cases h4'
      obtain ⟨q1, q2, q3⟩ := pair_new S hT h5 h5'
      exact ⟨_, zipL_at _ _ _ _ _ h3 h3', q1, q2, q3⟩
  | @zipL d f xs ys us vs' a b i r j s =>
    obtain ⟨vs, hs, r2, g2⟩ := lst_at i r S g
    obtain ⟨ws, hs', r2', _⟩ := lst_at (more := []) j s S (by rw [List.append_nil]; exact g2)
    have n : vs.length = xs.length := r2.length
    have n' : ws.length = ys.length := r2'.length
    refine ⟨fun i hi => ?_, ?_, fun i x H2 hi y => ?_⟩
    · rw [zipL_length] at hi
      obtain ⟨_, v, _, h1, _⟩ := get_len r2 (show i < xs.length by omega)
      obtain ⟨_, v', _, h1', _⟩ := get_len r2' (show i < ys.length by omega)
      exact ⟨vs, ws, v, v', hs, hs', h1, h1'⟩
    · rw [zipL_length]
      exact ⟨vs, ws, hs, hs', by omega⟩
    · rw [zipL_length] at hi
      obtain ⟨T, u, z, rfl, hT, rfl, h1, h2⟩ := y
      obtain ⟨d, v, h3, h4, h5⟩ := get_len r2 (show i < xs.length by omega)
      obtain ⟨d', v', h3', h4', h5'⟩ := get_len r2' (show i < ys.length by omega)
      have k1 := h1 vs hs
      have k2 := h2 ws hs'
      rw [k1] at h4; cases h4
      rw [k2] at h4'; cases h4'
      obtain ⟨q1, q2, q3⟩ := pair_new S hT h5 h5'
      exact ⟨_, zipL_at _ _ _ _ _ h3 h3', q1, q2, q3⟩
end
end Rx

set_option Elab.async false
set_option linter.all false
set_option maxRecDepth 100000
set_option maxHeartbeats 400000
set_option autoImplicit false
namespace Rx
open PySem L2 TL

section
variable {T : Tab} {C : CallF} {k : Nat} {X : Cx} {e e1 e2 e3 : Expr} {a b c : E} {pos : Pos}
/-! ### comparisons -/
theorem pe_cm {o : Co} {r : R2} (ho : OpR X (compareOp (coOp o)) r)
    (hr : ∀ {B : Bg} {H : Hp} {μ : List Addr} {st : Store} {a b : D} {x y : V} {k : Bool} {Q : VK}, B.K = X.K → StOk B H μ st → Rep B H μ a x → Rep B H μ b y → cmpV o a b st = some k → Q (.bl k) H → r x y H Q)
    (hm : behindInMarks (coOp o) e2 = false) (ha : PE X e1 (tE X.K C a)) (hb : PE X e2 (tE X.K C b)) :
    Snd X C false (.cmp o a b) (.Compare e1 [coOp o] [e2] pos) ∧ Snd X C true (.cmp o a b) (.Compare e1 [coOp o] [e2] pos) := by
  have h1 : PE X (.Compare e1 [coOp o] [e2] pos) (tE X.K C (.cmp o a b)) := by
    refine PE.imp (pe_cmpR ho ha hb hm) fun σ H Q ⟨B, μ, ρ, st, hB, N, W⟩ => ?_
    simp only [evE] at W
    refine go (R := repD) (fun ρ st => evE C ρ a st) hB N W fun μ1 st1 d x H1 L N1 ra W => ?_
    refine go (R := repD) (fun ρ st => evE C ρ b st) hB N1 W fun μ2 st2 d2 y H2 L2 N2 rb W => ?_
    obtain ⟨z, e, q⟩ := Wd.ofB N2.st W
    exact hr hB N2.st (Rep.mono L2 _ _ ra) rb e q
  have h2 : PT X (.Compare e1 [coOp o] [e2] pos) (tT X.K C (.cmp o a b)) := by
    refine PT.imp (pt_cmpR ho ha hb hm) fun σ H Q ⟨B, μ, ρ, st, hB, N, W⟩ => ?_
    simp only [evE] at W
    have W2 : Wd B H μ repB ((evE C ρ a st).bind fun x st => (evE C ρ b st).bind fun y st => (Res.of ((cmpV o x y st).map D.bl) st).bind boolOf) Q := by
      cases h1 : evE C ρ a st with
      | no => rw [h1] at W; exact W.not.elim
      | ok d st1 =>
        rw [h1] at W
        simp only [Res.bind] at W ⊢
        cases h2 : evE C ρ b st1 with
        | no => rw [h2] at W; exact W.not.elim
        | ok d st1 => rw [h2] at W; exact W
    refine go (R := repD) (fun ρ st => evE C ρ a st) hB N W2 fun μ1 st1 d x H1 L N1 ra W => ?_
    refine go (R := repD) (fun ρ st => evE C ρ b st) hB N1 W fun μ2 st2 d2 y H2 L2 N2 rb W => ?_
    cases hz : cmpV o d d2 st2 with
    | none => rw [hz] at W; exact W.not.elim
    | some z =>
      rw [hz] at W
      exact hr hB N2.st (Rep.mono L2 _ _ ra) rb hz ⟨z, rfl, W.here N2.st rfl⟩
  exact ⟨⟨fun _ => h1, nofun⟩, ⟨nofun, fun _ => h2⟩⟩
theorem snd_both {c : E} (h : Snd X C false c e ∧ Snd X C true c e) : ∀ t, Snd X C t c e
  | false => h.1
  | true => h.2
/-- a comparison's rule -/
def coR (K : PySem.W.Frag) : Co → R2
  | .eq => rEqX2 K
  | .ne => rNeX2 K
  | .isin => rInX K false
  | .notin => rInX K true
  | .is => rIsX false
  | .isnot => rIsX true
  | .lt => rI0 fun i j => .bl (decide (i < j))
  | .le => rI0 fun i j => .bl (decide (i ≤ j))
  | .gt => rI0 fun i j => .bl (decide (j < i))
  | .ge => rI0 fun i j => .bl (decide (j ≤ i))
theorem op_co (G : Good T C k X) (o : Co) : OpR X (compareOp (coOp o)) (coR X.K o) := by
  cases o with
  | eq => exact OpR.or (op_eqX G.u) (op_eqD G.u)
  | ne => exact OpR.or (op_neX G.u) (op_neD G.u)
  | isin => exact op_inX G.u
  | notin => exact op_notInX G.u
  | is => exact op_isX
  | isnot => exact op_isNotX
  | lt => exact op_lt
  | le => exact op_le
  | gt => exact op_gt
  | ge => exact op_ge
theorem co_ok (o : Co) {B : Bg} {H : Hp} {μ : List Addr} {st : Store} {a b : D} {x y : V} {k : Bool} {Q : VK} (S : StOk B H μ st) (ra : Rep B H μ a x) (rb : Rep B H μ b y) (e : cmpV o a b st = some k) (q : Q (.bl k) H) : coR B.K o x y H Q := by
  have ord : (o = .lt ∨ o = .le ∨ o = .gt ∨ o = .ge) → ∃ i j, x = .int i ∧ y = .int j ∧ cmpI o i j = some k := fun h => ord_ok h ra rb e
  cases o with
  | eq => exact eq_ok S ra rb e q
  | ne => exact ne_ok S ra rb e q
  | isin => exact inn_ok (neg := false) S ra rb e q
  | notin => exact inn_ok (neg := true) S ra rb e q
  | is => exact is_ok (neg := false) ra rb e q
  | isnot => exact is_ok (neg := true) ra rb e q
  | lt => obtain ⟨i, j, h1, h2, h3⟩ := ord (by decide); cases h3; exact ⟨i, j, h1, h2, q⟩
  | le => obtain ⟨i, j, h1, h2, h3⟩ := ord (by decide); cases h3; exact ⟨i, j, h1, h2, q⟩
  | gt => obtain ⟨i, j, h1, h2, h3⟩ := ord (by decide); cases h3; exact ⟨i, j, h1, h2, q⟩
  | ge => obtain ⟨i, j, h1, h2, h3⟩ := ord (by decide); cases h3; exact ⟨i, j, h1, h2, q⟩
theorem snd_cmp (G : Good T C k X) {o : Co} {t : Bool} (hs : notSet e2 = true) (ha : PE X e1 (tE X.K C a)) (hb : PE X e2 (tE X.K C b)) : Snd X C t (.cmp o a b) (.Compare e1 [coOp o] [e2] pos) :=
  snd_both (pe_cm (op_co G o) (fun hB S ra rb e q => hB ▸ co_ok o S ra rb e q) (mark_of _ hs) ha hb) t
theorem bind_assoc {α β γ : Type} (r : Rx.Res α) (f : α → Store → Rx.Res β) (g : β → Store → Rx.Res γ) : (r.bind f).bind g = r.bind fun a st => (f a st).bind g := by
  cases r <;> rfl
theorem snd_chn (G : Good T C k X) {o p : Co} {t : Bool} (hs : notSet e2 = true) (hs' : notSet e3 = true) (ha : PE X e1 (tE X.K C a)) (hb : PE X e2 (tE X.K C b)) (hc : PE X e3 (tE X.K C c)) :
    Snd X C t (.chn o p a b c) (.Compare e1 [coOp o, coOp p] [e2, e3] pos) := by
  have hm : lastMarks [coOp o, coOp p] [e2, e3] = false := mark_of _ hs'
  have main : ∀ {B : Bg} {H : Hp} {μ : List Addr} {ρ : Slots} {σ : L2.St} {st : Store} {Q : VK}, B.K = X.K → Now B H μ ρ σ st → Wd B H μ repD (evE C ρ (.chn o p a b c) st) Q →
      tChain (coR X.K o) (coR X.K p) (tE X.K C a) (tE X.K C b) (tE X.K C c) σ H Q := by
    intro B H μ ρ σ st Q hB N W
    rw [← hB]
    simp only [evE] at W
    refine go (R := repD) (fun ρ st => evE C ρ a st) rfl N W fun μ1 st1 d x H1 L N1 ra W => ?_
    refine go (R := repD) (fun ρ st => evE C ρ b st) rfl N1 W fun μ2 st2 d2 y H2 L2 N2 rb W => ?_
    split at W
    · rename_i e
      refine co_ok o N2.st (Rep.mono L2 _ _ ra) rb e ⟨true, rfl, ?_⟩
      refine iteT ?_
      refine go (R := repD) (fun ρ st => evE C ρ c st) rfl N2 W fun μ3 st3 d3 z H3 L3 N3 rc W => ?_
      obtain ⟨z, e, q⟩ := Wd.ofB N3.st W
      exact co_ok p N3.st (Rep.mono L3 _ _ rb) rc e q
    · rename_i e
      refine co_ok o N2.st (Rep.mono L2 _ _ ra) rb e ⟨false, rfl, ?_⟩
      exact iteF (W.here N2.st rfl)
    · exact W.not.elim
  refine ⟨fun _ => PE.imp (pe_chain (op_co G o) (op_co G p) ha hb hc hm) fun σ H Q ⟨B, μ, ρ, st, hB, N, W⟩ => main hB N W, fun _ => PT.imp (pt_chain (op_co G o) (op_co G p) ha hb hc hm) fun σ H Q ⟨B, μ, ρ, st, hB, N, W⟩ => ?_⟩
  have W2 : Wd B H μ repD (evE C ρ (.chn o p a b c) st) (fun x H' => ∃ k, x = .bl k ∧ Q k H') := by
    obtain ⟨b', st', e, kk⟩ := W
    have e : (evE C ρ (.chn o p a b c) st).bind boolOf = .ok b' st' := e
    cases hz : evE C ρ (.chn o p a b c) st with
    | no => rw [hz] at e; cases e
    | ok d st1 =>
      rw [hz] at e
      have e : boolOf d st1 = .ok b' st' := e
      unfold boolOf at e
      split at e
      · cases e
        exact ⟨_, _, rfl, fun v H' μ' L S r => ⟨_, r, kk _ H' μ' L S rfl⟩⟩
      · cases e
  exact main hB N W2
theorem snd_tru {t : Bool} (ht : t = true) (hp : plainT e = true) (ha : PE X e (tE X.K C a)) : Snd X C t (.tru a) e := by
  subst ht
  refine ⟨nofun, fun _ => PT.imp (pt_truth ha (test_of hp)) fun σ H Q ⟨B, μ, ρ, st, hB, N, W⟩ => ?_⟩
  simp only [evE, bind_assoc] at W
  refine go (R := repD) (fun ρ st => evE C ρ a st) hB N W fun μ1 st1 d x H1 L N1 r W => ?_
  cases hz : truD st1 d with
  | none => rw [hz] at W; exact W.not.elim
  | some z =>
    rw [hz] at W
    refine ⟨z, ?_, W.here N1.st rfl⟩
    cases d <;> simp only [truD] at hz <;> first
      | (cases hz; done)
      | (cases hz; cases r; exact rfl)
theorem Wd.eq {α β : Type} {R : RR α β} {B : Bg} {H : Hp} {μ : List Addr} {r r' : Rx.Res α} {Q : β → Hp → Prop} (h : r = r') (W : Wd B H μ R r Q) : Wd B H μ R r' Q := h ▸ W
/-! ### and, or -/
theorem and_nil {t : TE} {op : BoolOp} {vs : List Expr} (h : ∀ σ H Q, ¬ t σ H Q) : PE X (.BoolOp op vs pos) t := ⟨fun pins s σ H Q I w => (h σ H Q w).elim⟩
def tAnd' (K : PySem.W.Frag) (C : CallF) (es : Es) : TE := tR K repD fun ρ st => evAnd C ρ es st
def tOr' (K : PySem.W.Frag) (C : CallF) (es : Es) : TE := tR K repD fun ρ st => evOr C ρ es st
def tAndB (K : PySem.W.Frag) (C : CallF) (es : Es) : TT := tR K repB fun ρ st => (evAnd C ρ es st).bind boolOf
def tOrB (K : PySem.W.Frag) (C : CallF) (es : Es) : TT := tR K repB fun ρ st => (evOr C ρ es st).bind boolOf
theorem ev_and (ρ : Slots) (c d : E) (r : Es) (st : Store) : evAnd C ρ (.cons c (.cons d r)) st = (evE C ρ c st).bind fun x st => (boolOf x st).bind fun b st => if b = true then evAnd C ρ (.cons d r) st else .ok (.bl false) st := by
  simp only [evAnd, bind_assoc]
theorem ev_or (ρ : Slots) (c d : E) (r : Es) (st : Store) : evOr C ρ (.cons c (.cons d r)) st = (evE C ρ c st).bind fun x st => (boolOf x st).bind fun b st => if b = true then .ok (.bl true) st else evOr C ρ (.cons d r) st := by
  simp only [evOr, bind_assoc]
theorem ev_andB (ρ : Slots) (c d : E) (r : Es) (st : Store) : (evAnd C ρ (.cons c (.cons d r)) st).bind boolOf = ((evE C ρ c st).bind boolOf).bind fun b st => (if b = true then evAnd C ρ (.cons d r) st else .ok (.bl false) st).bind boolOf := by
  simp only [evAnd, bind_assoc]
theorem ev_orB (ρ : Slots) (c d : E) (r : Es) (st : Store) : (evOr C ρ (.cons c (.cons d r)) st).bind boolOf = ((evE C ρ c st).bind boolOf).bind fun b st => (if b = true then .ok (.bl true) st else evOr C ρ (.cons d r) st).bind boolOf := by
  simp only [evOr, bind_assoc]
theorem ev_and1 (ρ : Slots) (c : E) (st : Store) : evAnd C ρ (.cons c .nil) st = evE C ρ c st := by simp only [evAnd]
theorem ev_or1 (ρ : Slots) (c : E) (st : Store) : evOr C ρ (.cons c .nil) st = evE C ρ c st := by simp only [evOr]
theorem pe_and1 (h : PE X e (tE X.K C c)) : PE X (.BoolOp .And [e] pos) (tAnd' X.K C (.cons c .nil)) := PE.imp (pe_one h) fun σ H Q ⟨B, μ, ρ, st, hB, N, W⟩ => ⟨B, μ, ρ, st, hB, N, Wd.eq (by simp only [evAnd]) W⟩
theorem pe_or1 (h : PE X e (tE X.K C c)) : PE X (.BoolOp .Or [e] pos) (tOr' X.K C (.cons c .nil)) := PE.imp (pe_one h) fun σ H Q ⟨B, μ, ρ, st, hB, N, W⟩ => ⟨B, μ, ρ, st, hB, N, Wd.eq (by simp only [evOr]) W⟩
theorem pw_and1' (h : PT X e (tT X.K C c)) : PW X (.BoolOp .And [e] pos) (tAndB X.K C (.cons c .nil)) := PW.imp (pw_and1 h) fun σ H Q ⟨B, μ, ρ, st, hB, N, W⟩ => ⟨B, μ, ρ, st, hB, N, Wd.eq (by simp only [evAnd]) W⟩
theorem pw_or1' (h : PT X e (tT X.K C c)) : PW X (.BoolOp .Or [e] pos) (tOrB X.K C (.cons c .nil)) := PW.imp (pw_or1 h) fun σ H Q ⟨B, μ, ρ, st, hB, N, W⟩ => ⟨B, μ, ρ, st, hB, N, Wd.eq (by simp only [evOr]) W⟩
theorem pe_andC {d : E} {r : Es} {f : Expr} {vs : List Expr} (h : PE X e (tE X.K C c)) (hr : PE X (.BoolOp .And (f :: vs) pos) (tAnd' X.K C (.cons d r))) : PE X (.BoolOp .And (e :: f :: vs) pos) (tAnd' X.K C (.cons c (.cons d r))) := by
  refine PE.imp (pe_and h hr) fun σ H Q ⟨B, μ, ρ, st, hB, N, W⟩ => ?_
  replace W := Wd.eq (ev_and ρ c d r st) W
  refine go (R := repD) (fun ρ st => evE C ρ c st) hB N W fun μ1 st1 d x H1 L N1 ra W => ?_
  unfold boolOf at W
  split at W
  · cases ra
    refine ⟨_, rfl, ?_⟩
    simp only [Res.bind] at W
    rename_i b
    cases b with
    | true => exact iteT ⟨B, μ1, ρ, st1, hB, N1, by simpa using W⟩
    | false => exact iteF ((by simpa using W : Wd B H1 μ1 repD (.ok (.bl false) st1) Q).here N1.st rfl)
  · exact W.not.elim
theorem pe_orC {d : E} {r : Es} {f : Expr} {vs : List Expr} (h : PE X e (tE X.K C c)) (hr : PE X (.BoolOp .Or (f :: vs) pos) (tOr' X.K C (.cons d r))) : PE X (.BoolOp .Or (e :: f :: vs) pos) (tOr' X.K C (.cons c (.cons d r))) := by
  refine PE.imp (pe_or h hr) fun σ H Q ⟨B, μ, ρ, st, hB, N, W⟩ => ?_
  replace W := Wd.eq (ev_or ρ c d r st) W
  refine go (R := repD) (fun ρ st => evE C ρ c st) hB N W fun μ1 st1 d x H1 L N1 ra W => ?_
  unfold boolOf at W
  split at W
  · cases ra
    refine ⟨_, rfl, ?_⟩
    simp only [Res.bind] at W
    rename_i b
    cases b with
    | false => exact iteF ⟨B, μ1, ρ, st1, hB, N1, by simpa using W⟩
    | true => exact iteT ((by simpa using W : Wd B H1 μ1 repD (.ok (.bl true) st1) Q).here N1.st rfl)
  · exact W.not.elim
theorem pw_andC {d : E} {r : Es} {f : Expr} {vs : List Expr} (h : PT X e (tT X.K C c)) (hr : PW X (.BoolOp .And (f :: vs) pos) (tAndB X.K C (.cons d r))) : PW X (.BoolOp .And (e :: f :: vs) pos) (tAndB X.K C (.cons c (.cons d r))) := by
  refine PW.imp (pw_and h hr) fun σ H Q ⟨B, μ, ρ, st, hB, N, W⟩ => ?_
  replace W := Wd.eq (ev_andB ρ c d r st) W
  refine go (R := repB) (fun ρ st => (evE C ρ c st).bind boolOf) hB N W fun μ1 st1 d x H1 L N1 ra W => ?_
  cases ra
  cases d with
  | true => exact iteT ⟨B, μ1, ρ, st1, hB, N1, by simpa using W⟩
  | false => exact iteF ((by simpa [boolOf] using W : Wd B H1 μ1 repB (.ok false st1) Q).here N1.st rfl)
theorem pw_orC {d : E} {r : Es} {f : Expr} {vs : List Expr} (h : PT X e (tT X.K C c)) (hr : PW X (.BoolOp .Or (f :: vs) pos) (tOrB X.K C (.cons d r))) : PW X (.BoolOp .Or (e :: f :: vs) pos) (tOrB X.K C (.cons c (.cons d r))) := by
  refine PW.imp (pw_or h hr) fun σ H Q ⟨B, μ, ρ, st, hB, N, W⟩ => ?_
  replace W := Wd.eq (ev_orB ρ c d r st) W
  refine go (R := repB) (fun ρ st => (evE C ρ c st).bind boolOf) hB N W fun μ1 st1 d x H1 L N1 ra W => ?_
  cases ra
  cases d with
  | false => exact iteF ⟨B, μ1, ρ, st1, hB, N1, by simpa using W⟩
  | true => exact iteT ((by simpa [boolOf] using W : Wd B H1 μ1 repB (.ok true st1) Q).here N1.st rfl)
theorem snd_ite {t : Bool} (ht : t = false) (hc : PT X e1 (tT X.K C c)) (ha : PE X e2 (tE X.K C a)) (hb : PE X e3 (tE X.K C b)) : Snd X C t (.ite c a b) (.IfExp e1 e2 e3 pos) := by
  subst ht
  refine ⟨fun _ => PE.imp (pe_ifExp hc ha hb) fun σ H Q ⟨B, μ, ρ, st, hB, N, W⟩ => ?_, nofun⟩
  simp only [evE] at W
  refine go (R := repB) (fun ρ st => (evE C ρ c st).bind boolOf) hB N W fun μ1 st1 d x H1 L N1 ra W => ?_
  cases ra
  cases d with
  | true => exact iteT ⟨B, μ1, ρ, st1, hB, N1, by simpa using W⟩
  | false => exact iteF ⟨B, μ1, ρ, st1, hB, N1, by simpa using W⟩
/-! ### displays -/
theorem pa_nil' : PA X [] (tEs X.K C .nil) := PA.imp pa_nil fun σ H Q ⟨B, μ, ρ, st, hB, N, W⟩ => by
  simp only [evEs] at W
  exact W.here N.st rfl
theorem pa_cons' {es : List Expr} {cs : Es} (hs : notStar e = true) (h : PE X e (tE X.K C c)) (hr : PA X es (tEs X.K C cs)) : PA X (e :: es) (tEs X.K C (.cons c cs)) := by
  refine PA.imp (pa_cons h hr (star_of hs)) fun σ H Q ⟨B, μ, ρ, st, hB, N, W⟩ => ?_
  simp only [evEs] at W
  refine go (R := repD) (fun ρ st => evE C ρ c st) hB N W fun μ1 st1 d x H1 L N1 ra W => ?_
  refine go (R := repDs) (fun ρ st => evEs C ρ cs st) hB N1 W fun μ2 st2 ds xs H2 L2 N2 rb W => ?_
  exact W.here N2.st ⟨x, xs, rfl, Rep.mono L2 _ _ ra, rb⟩
theorem snd_tup {t : Bool} {es : List Expr} {cs : Es} {j : Nat} (h : PA X es (tEs X.K C cs)) : Snd X C t (.tup cs) (.Tuple es j pos) := by
  refine Snd.plain rfl (PE.imp (pe_tup h) fun σ H Q ⟨B, μ, ρ, st, hB, N, W⟩ => ?_)
  simp only [evE] at W
  refine go (R := repDs) (fun ρ st => evEs C ρ cs st) hB N W fun μ2 st2 ds xs H2 L2 N2 rb W => ?_
  split at W
  · rename_i hl
    exact ⟨by rw [rb.length, line_eq]; exact hl, tup_ok N2.st rb W⟩
  · exact W.not.elim
theorem snd_lst {t m : Bool} {es : List Expr} {cs : Es} (h : PA X es (tEs X.K C cs)) : Snd X C t (.lst m cs) (.List es pos) := by
  refine Snd.plain rfl (PE.imp (pe_lst h) fun σ H Q ⟨B, μ, ρ, st, hB, N, W⟩ => ?_)
  simp only [evE] at W
  refine go (R := repDs) (fun ρ st => evEs C ρ cs st) hB N W fun μ2 st2 ds xs H2 L2 N2 rb W => ?_
  split at W
  · rename_i hl
    exact ⟨by rw [rb.length, line_eq]; exact hl, newL_ok N2.st rb W⟩
  · exact W.not.elim
theorem snd_ix (G : Good T C k X) {t : Bool} (hs : notSlice e2 = true) (ha : PE X e1 (tE X.K C a)) (hb : PE X e2 (tE X.K C b)) : Snd X C t (.ix a b) (.Subscript e1 e2 pos) := by
  refine Snd.plain rfl (PE.imp (pe_ix (ix_seqX (by have := G.u; omega)) ha hb (ix_of hs)) fun σ H Q ⟨B, μ, ρ, st, hB, N, W⟩ => ?_)
  simp only [evE] at W
  refine go (R := repD) (fun ρ st => evE C ρ a st) hB N W fun μ1 st1 d x H1 L N1 ra W => ?_
  refine go (R := repD) (fun ρ st => evE C ρ b st) hB N1 W fun μ2 st2 d2 y H2 L2 N2 rb W => ?_
  exact hB ▸ ix_ok N2.st (Rep.mono L2 _ _ ra) rb W
def tO (K : PySem.W.Frag) (C : CallF) (c : Oe) : TO := tR K repO fun ρ st => evO C ρ c st
theorem PO.imp {e : Option Expr} {t t' : TO} (h : PO X e t) (i : ∀ σ H Q, t' σ H Q → t σ H Q) : PO X e t' := ⟨fun pins s σ H Q I w => h.run pins s σ H Q I (i _ _ _ w)⟩
theorem po_none' : PO X none (tO X.K C .non) := PO.imp po_none fun σ H Q ⟨B, μ, ρ, st, hB, N, W⟩ => by
  simp only [evO] at W
  exact W.here N.st rfl
theorem po_some' (h : PE X e (tE X.K C c)) : PO X (some e) (tO X.K C (.som c)) := PO.imp (po_some h) fun σ H Q ⟨B, μ, ρ, st, hB, N, W⟩ => by
  simp only [evO] at W
  refine go (R := repD) (fun ρ st => evE C ρ c st) hB N W fun μ1 st1 d x H1 L N1 ra W => ?_
  split at W
  · cases ra
    exact ⟨_, rfl, W.here N1.st rfl⟩
  · exact W.not.elim
theorem snd_sl {t m : Bool} {lo hi : Oe} {l h : Option Expr} {p : Pos} (ha : PE X e1 (tE X.K C a)) (hl : PO X l (tO X.K C lo)) (hh : PO X h (tO X.K C hi)) : Snd X C t (.sl m a lo hi) (.Subscript e1 (.Slice l h none p) pos) := by
  refine Snd.plain rfl (PE.imp (pe_slice sl_X ha hl hh) fun σ H Q ⟨B, μ, ρ, st, hB, N, W⟩ => ?_)
  simp only [evE] at W
  refine go (R := repD) (fun ρ st => evE C ρ a st) hB N W fun μ1 st1 d x H1 L N1 ra W => ?_
  refine go (R := repO) (fun ρ st => evO C ρ lo st) hB N1 W fun μ2 st2 d2 y H2 L2 N2 rb W => ?_
  refine go (R := repO) (fun ρ st => evO C ρ hi st) hB N2 W fun μ3 st3 d3 z H3 L3 N3 rc W => ?_
  cases rb; cases rc
  exact hB ▸ sl_ok N3.st (Rep.mono (L2.trans L3) _ _ ra) W
end
end Rx

set_option Elab.async false
set_option linter.all false
set_option maxRecDepth 100000
set_option maxHeartbeats 400000
set_option autoImplicit false
namespace Rx
open PySem L2 TL

/-! ### targets -/
def gNs : List Nat → TGs
  | [] => gNil
  | i :: is => gCons (gName i) (gNs is)
def gR (K : PySem.W.Frag) : Tg → TG
  | .nm i => gName i
  | .tu is => gTup K is.length (gNs is)
section
variable {X : Cx}
theorem pgs_of {sc2 : Scope} (hN : X.N.Nodup) (hf : ∀ x, locB sc2 x = true → X.fn x = true ∨ X.env.scope.names.lookup x = some .local) :
    ∀ (is : List Nat) (es : List Expr), tgB.tgsB X.N X.env.scope is es = true → tgB.tgsB X.N sc2 is es = true → PGs X es (gNs is)
  | [], [], _, _ => pgs_nil
  | [], _ :: _, h, _ => by cases h
  | _ :: _, [], h, _ => by cases h
  | i :: is, e :: es, h, h2 => by
    cases e <;> first | (cases h; done) | skip
    simp only [tgB.tgsB, Bool.and_eq_true, decide_eq_true_eq] at h h2
    exact pgs_cons (pg_name hN h.1.1 (loc_of h.1.2) (hf _ h2.1.2)) (pgs_of hN hf is es h.2 h2.2)
theorem tgs_len {N : List Str} {sc : Scope} : ∀ (is : List Nat) (es : List Expr), tgB.tgsB N sc is es = true → es.length = is.length
  | [], [], _ => rfl
  | [], _ :: _, h => by cases h
  | _ :: _, [], h => by cases h
  | i :: is, e :: es, h => by
    cases e <;> first | (cases h; done) | skip
    simp only [tgB.tgsB, Bool.and_eq_true] at h
    rw [List.length_cons, List.length_cons, tgs_len is es h.2]
theorem names_shape {N : List Str} {sc : Scope} : ∀ (is : List Nat) (es : List Expr), tgB.tgsB N sc is es = true → ∀ e ∈ es, ∃ x p, e = .Name x p
  | [], [], _ => by simp
  | [], _ :: _, h => by cases h
  | _ :: _, [], h => by cases h
  | i :: is, e :: es, h => by
    cases e <;> first | (cases h; done) | skip
    simp only [tgB.tgsB, Bool.and_eq_true] at h
    intro f hf
    rcases List.mem_cons.mp hf with z | z
    · exact ⟨_, _, z⟩
    · exact names_shape is es h.2 f z
theorem each_names {env : PySem.Env} : ∀ es : List Expr, (∀ e ∈ es, ∃ x p, e = .Name x p) → assignEach es env = es.map fun e => (false, assign e env)
  | [], _ => by simp [assignEach]
  | e :: es, h => by
    obtain ⟨x, p, rfl⟩ := h e List.mem_cons_self
    have ih := each_names (env := env) es fun f hf => h f (List.mem_cons_of_mem _ hf)
    simp only [assignEach, ih, List.map_cons]
theorem pg_of {sc2 : Scope} {t : Tg} {e : Expr} (hN : X.N.Nodup) (hc : X.calm = true) (hf : ∀ x, locB sc2 x = true → X.fn x = true ∨ X.env.scope.names.lookup x = some .local) (h : tgB X.N X.env.scope t e = true) (h2 : tgB X.N sc2 t e = true) :
    PG X e (gR X.K t) := by
  cases t with
  | nm i =>
    cases e <;> first | (cases h; done) | skip
    simp only [tgB, Bool.and_eq_true, decide_eq_true_eq] at h h2
    exact pg_name hN h.1 (loc_of h.2) (hf _ h2.2)
  | tu is =>
    cases e <;> first | (cases h; done) | skip
    rename_i es j p
    have hl := tgs_len is es h
    show PG X _ (gTup X.K is.length (gNs is))
    rw [← hl]
    have he := each_names (env := X.env) es (names_shape is es h)
    refine pg_tup hc (pgs_of hN hf is es h h2) (by rw [he, List.length_map]) (by rw [he, List.findIdx?_map]; simp)
/-! ### slots -/
theorem wipeD_length : ∀ (ρ : Slots) (vs : List Nat), (wipeD ρ vs).length = ρ.length
  | _, [] => rfl
  | ρ, v :: vs => by rw [wipeD, List.length_set, wipeD_length ρ vs]
theorem wipeD_some {ρ : Slots} {i : Nat} {d : D} : ∀ {vs : List Nat}, (wipeD ρ vs)[i]? = some (some d) → ρ[i]? = some (some d) ∧ i ∉ vs
  | [], h => ⟨h, by simp⟩
  | v :: vs, h => by
    unfold wipeD at h
    by_cases hi : v = i
    · subst hi
      by_cases hv : v < (wipeD ρ vs).length
      · rw [List.getElem?_set_self hv] at h; cases h
      · rw [List.getElem?_eq_none (by simpa using hv)] at h; cases h
    · rw [List.getElem?_set_ne hi] at h
      obtain ⟨h1, h2⟩ := wipeD_some h
      exact ⟨h1, by simp only [List.mem_cons, not_or]; exact ⟨fun e => hi e.symm, h2⟩⟩
theorem wipe_in {σ : L2.St} {i : Nat} : ∀ {vs : List Nat}, i ∈ vs → i < σ.length → (L2.wipe σ vs)[i]? = some none
  | [], h, _ => by simp at h
  | v :: vs, h, hl => by
    unfold L2.wipe
    by_cases hi : v = i
    · subst hi
      rw [List.getElem?_set_self (by rw [L2.wipe_length]; exact hl)]
    · rw [List.getElem?_set_ne hi]
      rcases List.mem_cons.mp h with z | z
      · exact absurd z.symm hi
      · exact wipe_in z hl
theorem wipe_eq {σ σ2 : L2.St} {vs : List Nat} (hl : σ2.length = σ.length) (h : ∀ j, j ∉ vs → σ2[j]? = (L2.wipe σ vs)[j]?) : L2.wipe σ2 vs = L2.wipe σ vs := by
  apply List.ext_getElem?
  intro j
  by_cases hj : j ∈ vs
  · by_cases hlt : j < σ.length
    · rw [wipe_in hj hlt, wipe_in hj (by rw [hl]; exact hlt)]
    · rw [List.getElem?_eq_none (by rw [L2.wipe_length]; omega), List.getElem?_eq_none (by rw [L2.wipe_length]; omega)]
  · rw [L2.wipe_out hj, h j hj]
variable {B B' : Bg} {H H' : Hp} {μ μ' : List Addr} {ρ ρ' : Slots} {σ : L2.St} {st st' : Store}
theorem Now.wipe (N : Now B H μ ρ σ st) (vs : List Nat) : Now B H μ (wipeD ρ vs) (L2.wipe σ vs) st := by
  refine ⟨N.st, by rw [wipeD_length, L2.wipe_length]; exact N.len, fun i d e => ?_⟩
  obtain ⟨h1, h2⟩ := wipeD_some e
  obtain ⟨v, h3, h4⟩ := N.sl i d h1
  exact ⟨v, by rw [L2.wipe_out h2]; exact h3, h4⟩
theorem Now.tran (N : Now B H μ ρ σ st) (t : Tran B H μ B' H' μ') (S : StOk B' H' μ' st') : Now B' H' μ' ρ σ st' :=
  ⟨S, N.len, fun i d e => let ⟨v, h1, h2⟩ := N.sl i d e; ⟨v, h1, Rep.tran t d v h2⟩⟩
theorem Now.set (N : Now B H μ ρ σ st) {i : Nat} {d : D} {v : V} (r : Rep B H μ d v) : Now B H μ (ρ.set i (some d)) (σ.set i (some v)) st := by
  refine ⟨N.st, by rw [List.length_set, List.length_set]; exact N.len, fun j f e => ?_⟩
  by_cases hi : i = j
  · subst hi
    by_cases hl : i < ρ.length
    · rw [List.getElem?_set_self hl] at e
      cases e
      exact ⟨v, List.getElem?_set_self (by rw [← N.len]; exact hl), r⟩
    · rw [List.getElem?_eq_none (by rw [List.length_set]; omega)] at e; cases e
  · rw [List.getElem?_set_ne hi] at e
    obtain ⟨w, h1, h2⟩ := N.sl j f e
    exact ⟨w, by rw [List.getElem?_set_ne hi]; exact h1, h2⟩
theorem setAll_ok {Q : L2.St → Hp → Prop} : ∀ {is : List Nat} {ds : List D} {vs : List V} {ρ ρ' : Slots} {σ : L2.St}, setAll ρ is ds = some ρ' → Reps B H μ ds vs → Now B H μ ρ σ st →
    (∀ σ', Now B H μ ρ' σ' st → (∀ j, j ∉ is → σ'[j]? = σ[j]?) → Q σ' H) → gNs is vs σ H Q
  | [], [], vs, ρ, ρ', σ, e, r, N, k => by
    cases e; cases r
    exact ⟨rfl, k σ N fun _ _ => rfl⟩
  | [], _ :: _, _, _, _, _, e, _, _, _ => by cases e
  | _ :: _, [], _, _, _, _, e, _, _, _ => by cases e
  | i :: is, d :: ds, vs, ρ, ρ', σ, e, r, N, k => by
    obtain ⟨v, vs, rfl, r1, r2⟩ := r
    refine ⟨v, vs, rfl, ?_⟩
    refine setAll_ok (is := is) e r2 (N.set r1) fun σ' N' h => k σ' N' fun j hj => ?_
    simp only [List.mem_cons, not_or] at hj
    rw [h j hj.2, List.getElem?_set_ne (fun z => hj.1 z.symm)]
theorem setAll_len : ∀ {is : List Nat} {ds : List D} {ρ ρ' : Slots}, setAll ρ is ds = some ρ' → ρ'.length = ρ.length
  | [], [], _, _, e => by cases e; rfl
  | [], _ :: _, _, _, e => by cases e
  | _ :: _, [], _, _, e => by cases e
  | i :: is, d :: ds, ρ, ρ', e => by
    have := setAll_len (is := is) e
    rw [this, List.length_set]
theorem bindT_len {t : Tg} {d : D} (e : bindT t d ρ = some ρ') : ρ'.length = ρ.length := by
  unfold bindT at e
  cases t with
  | nm i => simp only at e; cases e; rw [List.length_set]
  | tu is =>
    simp only at e
    split at e
    · exact setAll_len e
    · cases e
theorem bind_ok {t : Tg} {d : D} {x : V} {Q : L2.St → Hp → Prop} (e : bindT t d ρ = some ρ') (r : Rep B H μ d x) (N : Now B H μ ρ σ st) (k : ∀ σ', Now B H μ ρ' σ' st → (∀ j, j ∉ tgS t → σ'[j]? = σ[j]?) → Q σ' H) : gR B.K t x σ H Q := by
  unfold bindT at e
  cases t with
  | nm i =>
    simp only at e
    cases e
    exact k _ (N.set r) fun j hj => List.getElem?_set_ne (fun z => hj (by simp [tgS, z]))
  | tu is =>
    simp only at e
    split at e
    · obtain ⟨p, vs, rfl, hs, r2⟩ := sqT_of r
      have hl : vs.length = is.length := by
        have : ∀ (is : List Nat) (ds : List D) (ρ ρ' : Slots), setAll ρ is ds = some ρ' → ds.length = is.length := by
          intro is
          induction is with
          | nil => intro ds ρ ρ' e; cases ds <;> first | rfl | cases e
          | cons i is ih => intro ds ρ ρ' e; cases ds with
            | nil => cases e
            | cons d ds => rw [List.length_cons, List.length_cons, ih ds _ _ e]
        rw [r2.length, this _ _ _ _ e]
      exact ⟨p, vs, rfl, hs, hl, setAll_ok e r2 N k⟩
    · cases e
end
end Rx

set_option Elab.async false
set_option linter.all false
set_option maxRecDepth 100000
set_option maxHeartbeats 400000
set_option autoImplicit false
namespace Rx
open PySem L2 TL

section
variable {T : Tab} {C : CallF} {k : Nat} {X : Cx} {e e1 e2 e3 : Expr} {a b c : E} {pos : Pos}
def tI (K : PySem.W.Frag) (C : CallF) (c : I) : TI := tR K repW fun ρ st => evI C ρ c st
def tC' (K : PySem.W.Frag) (C : CallF) (c : Oe) : TT := tR K repB fun ρ st => evC C ρ c st
/-! ### comprehensions -/
theorem lcL_nil {g : Store → Bool} {f : D → Store → Rx.Res (Option D)} {acc : List D} {st : Store} {r : List D → Store → Rx.Res D} {d : D} {st' : Store} (h : (lcL g f [] acc st).bind r = .ok d st') : g st = true ∧ r acc st = .ok d st' := by
  unfold lcL at h
  by_cases hg : g st = true
  · rw [if_pos hg] at h; exact ⟨hg, h⟩
  · rw [if_neg hg] at h; cases h
theorem lcL_cons {g : Store → Bool} {f : D → Store → Rx.Res (Option D)} {x : D} {xs acc : List D} {st : Store} {r : List D → Store → Rx.Res D} {d : D} {st' : Store} (h : (lcL g f (x :: xs) acc st).bind r = .ok d st') :
    g st = true ∧ ∃ o st1, f x st = .ok o st1 ∧ ((o = none ∧ (lcL g f xs acc st1).bind r = .ok d st') ∨ ∃ y, o = some y ∧ acc.length < LINE ∧ (lcL g f xs (acc ++ [y]) st1).bind r = .ok d st') := by
  unfold lcL at h
  by_cases hg : g st = true
  · rw [if_pos hg] at h
    refine ⟨hg, ?_⟩
    cases hf : f x st with
    | no => rw [hf] at h; cases h
    | ok o st1 =>
      rw [hf] at h
      refine ⟨o, st1, rfl, ?_⟩
      cases o with
      | none => exact .inl ⟨rfl, h⟩
      | some y =>
        refine .inr ⟨y, rfl, ?_⟩
        simp only [Res.bind] at h
        by_cases hl : acc.length < LINE
        · rw [if_pos hl] at h; exact ⟨hl, h⟩
        · rw [if_neg hl] at h; cases h
  · rw [if_neg hg] at h; cases h
theorem drop_at {α : Type} {xs : List α} {i : Nat} {d : α} (h : xs[i]? = some d) : xs.drop i = d :: xs.drop (i + 1) := by
  have hl := (List.getElem?_eq_some_iff.mp h)
  obtain ⟨h1, h2⟩ := hl
  rw [List.drop_eq_getElem_cons h1, h2]
theorem lc_ok {m : Bool} {elt : E} {tg : Tg} {it : I} {cd : Oe} {own : List Nat} (hown : ∀ j ∈ tgS tg, j ∈ own) (σ : L2.St) (H : Hp) (Q : VK) (w : tE X.K C (.lc m elt tg it cd own) σ H Q) :
    tLc (tI X.K C it) (gR X.K tg) (tC' X.K C cd) (tE X.K C elt) ((ownOf X.N own).map (·.2)) σ H Q := by
  obtain ⟨B, μ, ρ, st, hB, N, W⟩ := w
  have eown : (ownOf X.N own).map (·.2) = own := by unfold ownOf; rw [List.map_map]; simp [Function.comp_def]
  rw [eown, ← hB]
  simp only [evE] at W
  refine go (R := repW) (fun ρ st => evI C ρ it st) rfl N W fun μ1 st1 w J H1 L N1 rw W1 => ?_
  intro p hp
  obtain ⟨d, st', e0, kk⟩ := W1
  have tr : ∀ {Hc : Hp} {μc : List Addr}, Later H1 μ1 Hc μc → Tran B H1 μ1 (B.hide p) Hc μc := fun {Hc μc} L => ⟨rfl, fun a o h e => ⟨⟨L.out h.1 e, fun hm => by
    rcases List.mem_cons.mp hm with z | z
    · rw [z, hp] at e; cases e
    · exact h.2 z⟩, L.keep a o h.1 e⟩, fun n a h => L.at h⟩
  refine ⟨fun i mm Hc => mm = w.xs.length - i ∧ i ≤ w.xs.length ∧ ∃ μc st acc vs, Later H1 μ1 Hc μc ∧ StOk (B.hide p) Hc μc st ∧ p ∉ μc ∧ Hc p = some (.lst vs) ∧ Reps (B.hide p) Hc μc acc vs ∧
    (lcL (guard w) (fun d st => match bindT tg d (wipeD ρ own) with
      | none => .no
      | some ρ' => (evC C ρ' cd st).bind fun b st => if b = true then (evE C ρ' elt st).bind fun y st => .ok (some y) st else .ok none st) (w.xs.drop i) acc st).bind (fun ys st => newL m ys st) = .ok d st', ⟨_, rfl, Nat.zero_le _, μ1, st1, [], [], Later.new hp, N1.st.hide hp, (N1.st.fresh hp).1, upd_same, rfl, e0⟩, ?_⟩
  rintro i mm Hc ⟨rfl, hi, μc, st, acc, vs, Lc, S, hpc, hH, rr, ev⟩
  have Wc := rw.tran (tr Lc)
  have Nc : Now (B.hide p) Hc μc ρ σ st := N1.tran (tr Lc) S
  by_cases hlt : i < w.xs.length
  · obtain ⟨x, hx⟩ : ∃ x, w.xs[i]? = some x := ⟨_, List.getElem?_eq_getElem hlt⟩
    rw [drop_at hx] at ev
    obtain ⟨hg, o, st2, hf, alt⟩ := lcL_cons ev
    obtain ⟨t1, t2, t3⟩ := Wc.turn S hg
    refine .inr ⟨t1 i hlt, _, fun H' h => ⟨w.xs.length - (i + 1), by omega, rfl, hlt, h⟩, fun v H2 yl => ?_⟩
    obtain ⟨x', hx', L2h, S2, r2⟩ := t3 i v H2 hlt yl
    rw [hx] at hx'; cases hx'
    split at hf
    · cases hf
    · rename_i ρ' hbind
      have N2 : Now (B.hide p) H2 μc (wipeD ρ own) (L2.wipe σ own) st := (Nc.later L2h S2).wipe own
      refine bind_ok (B := B.hide p) hbind r2 N2 fun σ' N3 hσ => ?_
      refine ⟨wipe_eq (by rw [← N3.len, ← L2.wipe_length σ own, ← N2.len]; have := N3.len; have := N2.len; have h1 := bindT_len hbind; omega) (fun j hj => hσ j fun z => hj (hown j z)), ?_⟩
      have Wt : Wd (B.hide p) H2 μc (fun _ _ _ (a : Option D) (b : Option D) => a = b) ((evC C ρ' cd st).bind fun b st => if b = true then (evE C ρ' elt st).bind fun y st => .ok (some y) st else .ok none st) (fun _ _ => True) := ⟨o, st2, hf, fun _ _ _ _ _ _ => trivial⟩
      cases hc : evC C ρ' cd st with
      | no => rw [hc] at hf; cases hf
      | ok bb st3 =>
        rw [hc] at hf
        refine ⟨B.hide p, μc, ρ', st, rfl, N3, bb, st3, hc, fun b' H3 μ3 L3 S3 rb => ?_⟩
        cases rb
        simp only [Res.bind] at hf
        have LL3 : Later H1 μ1 H3 μ3 := (Lc.trans L2h).trans L3
        have hH3 : H3 p = some (.lst vs) := L3.keep p _ hpc (L2h.keep p _ hpc hH)
        have hp3 : p ∉ μ3 := L3.out hpc (L2h.keep p _ hpc hH)
        cases bb with
        | false =>
          refine iteF ?_
          simp only [Bool.false_eq_true, if_false] at hf
          cases hf
          rcases alt with ⟨_, ev2⟩ | ⟨y, z, _⟩
          · exact ⟨μ3, _, acc, vs, LL3, S3, hp3, hH3, Reps.mono (L2h.trans L3) _ _ rr, ev2⟩
          · cases z
        | true =>
          refine iteT ?_
          simp only [if_true] at hf
          cases hy : evE C ρ' elt st3 with
          | no => rw [hy] at hf; cases hf
          | ok yd st4 =>
            rw [hy] at hf
            simp only [Res.bind] at hf
            cases hf
            rcases alt with ⟨z, _⟩ | ⟨y', z, hl, ev2⟩
            · cases z
            · cases z
              refine ⟨B.hide p, μ3, ρ', st3, rfl, N3.later L3 S3, yd, st2, hy, fun yv H4 μ4 L4 S4 ry => ?_⟩
              have hH4 : H4 p = some (.lst vs) := L4.keep p _ hp3 hH3
              have hp4 : p ∉ μ4 := L4.out hp3 hH3
              have hm : p ∈ (B.hide p).hid := List.mem_cons_self
              have LL4 : Later H1 μ1 H4 μ4 := LL3.trans L4
              refine ⟨vs, hH4, by rw [rr.length, line_eq]; exact hl, μ4, st2, acc ++ [yd], vs ++ [yv], ?_, S4.updH hm hp4, hp4, upd_same, ?_, ev2⟩
              · refine ⟨fun a o h e => ?_, fun a o e => ?_, LL4.more⟩
                · rw [upd_ne (ne_of_none e hp)]; exact LL4.keep a o h e
                · rw [upd_ne (ne_of_none e hp)]; exact LL4.live a o e
              · exact Reps.tran (tr_upd hm) _ _ (Reps.app (Reps.mono ((L2h.trans L3).trans L4) _ _ rr) ⟨yv, [], rfl, ry, rfl⟩)
  · have hi' : i = w.xs.length := by omega
    subst hi'
    rw [List.drop_length] at ev
    obtain ⟨hg, ev⟩ := lcL_nil ev
    obtain ⟨t1, t2, t3⟩ := Wc.turn S hg
    refine .inl ⟨t2, ?_⟩
    have hnb : p ∉ B.hid := fun hm => by
      obtain ⟨o, e⟩ := N1.st.hid p hm
      rw [hp] at e; cases e
    unfold newL at ev
    by_cases hm : m = true
    · rw [if_pos hm] at ev
      cases ev
      have tq : Tran (B.hide p) Hc μc B Hc (μc ++ [p]) := ⟨rfl, fun a o h e => ⟨⟨fun hx => by
        rcases List.mem_append.mp hx with z | z
        · exact h.1 z
        · exact h.2 (List.mem_cons.mpr (.inl (List.mem_singleton.mp z))), fun hx => h.2 (List.mem_cons_of_mem _ hx)⟩, e⟩, fun n a h => by
          rw [List.getElem?_append_left (List.getElem?_eq_some_iff.mp h).1]; exact h⟩
      refine kk _ _ (μc ++ [p]) ⟨Lc.keep, Lc.live, ?_⟩ ?_ ⟨p, rfl, ?_⟩
      · obtain ⟨r, e, h⟩ := Lc.more
        refine ⟨r ++ [p], by rw [e, List.append_assoc], fun a ha => ?_⟩
        rcases List.mem_append.mp ha with z | z
        · exact h a z
        · rw [List.mem_singleton.mp z]; exact hp
      · refine ⟨by rw [List.length_append, List.length_append, S.len]; rfl, ?_, fun a ha => S.hid a (List.mem_cons_of_mem _ ha), fun n a c h1 h2 => ?_⟩
        · rw [List.nodup_append]
          exact ⟨S.nd, by simp, fun a ha b hb => by rw [List.mem_singleton.mp hb]; exact fun z => hpc (z ▸ ha)⟩
        · by_cases hn : n < μc.length
          · rw [List.getElem?_append_left hn] at h1
            rw [List.getElem?_append_left (by rw [← S.len]; exact hn)] at h2
            exact (S.cell n a c h1 h2).tran tq fun _ e => e
          · have hn' : n = μc.length := by
              have := (List.getElem?_eq_some_iff.mp h1).1
              rw [List.length_append] at this
              simp at this; omega
            subst hn'
            rw [List.getElem?_append_right (Nat.le_refl _), Nat.sub_self] at h1
            rw [S.len, List.getElem?_append_right (Nat.le_refl _), Nat.sub_self] at h2
            simp at h1 h2; subst h1 h2
            exact ⟨vs, hH, Reps.tran tq _ _ rr⟩
      · rw [← S.len, List.getElem?_append_right (Nat.le_refl _), Nat.sub_self]; rfl
    · rw [if_neg hm] at ev
      cases ev
      exact kk _ _ μc Lc S.bare ⟨p, vs, rfl, ⟨⟨hpc, hnb⟩, hH⟩, Reps.tran tr_bare _ _ rr⟩
theorem snd_lc {t m : Bool} {elt : E} {tg : Tg} {it : I} {cd : Oe} {own : List Nat} {y g i : Expr} {ifs : List Expr} {scope : Scope} (G : Good T C k X)
    (hb : blkC X.N X.env.scope scope (ownOf X.N own) = true) (hown : ∀ j ∈ tgS tg, j ∈ own)
    (hi : PI X g i (tI X.K C it)) (hs : notSet i = true)
    (hg : ∀ (s : Shared) (H : Hp) (c0 : Addr) (cl : List (Str × Addr)) (fp : List Addr), PG (X.blk s H scope (compEnvC scope cl c0 X.env) fp) g (gR X.K tg))
    (ht : ∀ (s : Shared) (H : Hp) (c0 : Addr) (cl : List (Str × Addr)) (fp : List Addr), PTs (X.blk s H scope (compEnvC scope cl c0 X.env) fp) ifs (tC' X.K C cd))
    (he : ∀ (s : Shared) (H : Hp) (c0 : Addr) (cl : List (Str × Addr)) (fp : List Addr), PE (X.blk s H scope (compEnvC scope cl c0 X.env) fp) y (tE X.K C elt)) :
    Snd X C t (.lc m elt tg it cd own) (.ListComp y [⟨g, i, ifs, 0⟩] scope pos) :=
  Snd.plain rfl (PE.imp (pe_lc G.calm G.nd hi (blkOk_by hb) hg ht he (fold_of hs)) (lc_ok hown))
theorem ps_lc {m : Bool} {elt : E} {tg : Tg} {it : I} {cd : Oe} {own : List Nat} {y g i : Expr} {ifs : List Expr} {scope : Scope} {j : Nat} {x : Str} {px spos : Pos} (G : Good T C k X)
    (hx : X.N[j]? = some x) (hxl : X.env.scope.names.lookup x = some .local) (hsw : swapsWith (.ListComp y [⟨g, i, ifs, 0⟩] scope pos) (some (.Name x px)) spos.line X.env = pure true)
    (hb : blkC X.N X.env.scope scope (ownOf X.N own) = true) (hown : ∀ j ∈ tgS tg, j ∈ own)
    (hi : PI X g i (tI X.K C it)) (hs : notSet i = true)
    (hg : ∀ (s : Shared) (H : Hp) (c0 : Addr) (cl : List (Str × Addr)) (fp : List Addr), PG (X.blk s H scope (compEnvC scope cl c0 X.env) fp) g (gR X.K tg))
    (ht : ∀ (s : Shared) (H : Hp) (c0 : Addr) (cl : List (Str × Addr)) (fp : List Addr), PTs (X.blk s H scope (compEnvC scope cl c0 X.env) fp) ifs (tC' X.K C cd))
    (he : ∀ (s : Shared) (H : Hp) (c0 : Addr) (cl : List (Str × Addr)) (fp : List Addr), PE (X.blk s H scope (compEnvC scope cl c0 X.env) fp) y (tE X.K C elt)) :
    PS X (.Assign [.Name x px] (.ListComp y [⟨g, i, ifs, 0⟩] scope pos) spos) (tAsg (tE X.K C (.lc m elt tg it cd own)) (gName j)) :=
  PS.imp (ps_setLc G.calm G.nd hx hxl hsw hi (blkOk_by hb) hg ht he (fold_of hs)) fun D σ H h => lc_ok hown σ H _ h
end
end Rx

set_option Elab.async false
set_option linter.all false
set_option maxRecDepth 100000
set_option maxHeartbeats 400000
set_option autoImplicit false
namespace Rx
open PySem L2 TL

section
variable {T : Tab} {C : CallF} {k : Nat} {X : Cx} {e e1 e2 e3 : Expr} {a b c : E} {pos p : Pos}
theorem okEs_stars {N : List Str} {sc : Scope} {t : Bool} : ∀ (cs : Es) (es : List Expr), okEs T N cs sc t es = true → noStars es = true
  | .nil, [], _ => rfl
  | .nil, _ :: _, h => by cases h
  | .cons _ _, [], h => by cases h
  | .cons c cs, e :: es, h => by
    simp only [okEs, Bool.and_eq_true] at h
    simp only [noStars, Bool.and_eq_true]
    exact ⟨h.1.1, okEs_stars cs es h.2⟩
theorem pass0 {X : Cx} {E : XK} : Passes CX0 X E := fun _ _ _ _ _ _ _ h => h.elim
/-! ### calls -/
theorem callS {f n : Nat} {B : Bg} {H : Hp} {μ : List Addr} {st : Store} {ds : List D} {vs : List V} {Q : VK} {K : PySem.W.Frag} (hn : ∀ ds st, C f ds st ≠ .no → ds.length = n) (hB : B.K = K) (S : StOk B H μ st) (r : Reps B H μ ds vs) (W : Wd B H μ repD (C f ds st) Q) (E : XK := fun _ _ _ => False) :
    spF K C f n (vs ++ []) H Q E := by
  rw [List.append_nil]
  refine ⟨B, μ, st, ds, hB, S, r, ?_, W⟩
  rw [r.length]
  refine hn ds st fun z => ?_
  rw [z] at W
  exact W.not
theorem snd_call (G : Good T C k X) {t : Bool} {f : Nat} {x : Str} {es : List Expr} {cs : Es} (h1 : callB X.env.scope x = true) (h2 : T.fs[f]? = some x) (hs : noStars es = true) (hz : es = [] → cs = .nil) (ha : PA X es (tEs X.K C cs)) :
    Snd X C t (.call f cs) (.Call (.Name x p) es [] pos) := by
  obtain ⟨fa, fd, ps, hm, hk, hb, hn, F⟩ := G.fs f x h2
  obtain ⟨g1, g2, g3⟩ := call_of h1
  refine Snd.plain rfl ?_
  cases es with
  | nil =>
    refine PE.imp (pe_call0 (dvs := []) F G.room g1 hm hk hb .nil (pass0 (E := fun _ _ _ => False)) g2) fun σ H Q ⟨B, μ, ρ, st, hB, N, W⟩ => ?_
    have hz := hz rfl
    subst hz
    show spF X.K C f ps.length ([] ++ []) H Q (fun _ _ _ => False)
    exact callS (ds := []) (vs := []) hn hB N.st (show Reps B H μ [] [] from rfl) (Wd.eq (by simp only [evE, evEs, bnd_ok]) W)
  | cons e es =>
    unfold noStars at hs
    rw [Bool.and_eq_true] at hs
    refine PE.imp (pe_call (dvs := []) F G.room g1 hm hk hb .nil (pass0 (E := fun _ _ _ => False)) ha g2 (star_of hs.1) (plain_of pos hs.2)) fun σ H Q ⟨B, μ, ρ, st, hB, N, W⟩ => ?_
    simp only [evE] at W
    refine go (R := repDs) (fun ρ st => evEs C ρ cs st) hB N W fun μ2 st2 ds xs H2 L2 N2 rb W => ?_
    exact callS hn hB N2.st rb W
/-! ### built-ins -/
theorem boot_bi (b : Bi) : bootBuiltins (biN b) = some (biF b) := by
  cases b <;> decide +kernel
theorem snd_bi (G : Good T C k X) {t m : Bool} {b : Bi} {x : Str} {es : List Expr} {cs : Es} (h1 : callB X.env.scope x = true) (h2 : x = biN b) (h3 : T.bs.contains x = true) (hne : es.isEmpty = false) (hs : noStars es = true) (ha : PA X es (tEs X.K C cs)) :
    Snd X C t (.bi b m cs) (.Call (.Name x p) es [] pos) := by
  obtain ⟨g1, g2, g3⟩ := call_of h1
  have hm := G.bs x h3
  refine Snd.plain rfl ?_
  cases es with
  | nil => cases hne
  | cons e es =>
    unfold noStars at hs
    rw [Bool.and_eq_true] at hs
    have key : PE X (.Call (.Name x p) (e :: es) [] pos) (tCB (rBi X.K b) (tEs X.K C cs)) := by
      have hv : bootBuiltins x = some (biF b) := by rw [h2]; exact boot_bi b
      have hc := call_bi (X := X) G.calm b
      unfold biF at hv hc
      by_cases hz : (biS b).1 = true
      · rw [if_pos hz] at hv hc
        exact pe_callB hc g1 hm hv ha g3 g2 (star_of hs.1) (plain_of pos hs.2)
      · rw [if_neg hz] at hv hc
        exact pe_callTy hc g1 hm hv ha g3 g2 (star_of hs.1) (plain_of pos hs.2)
    refine PE.imp key fun σ H Q ⟨B, μ, ρ, st, hB, N, W⟩ => ?_
    simp only [evE] at W
    refine go (R := repDs) (fun ρ st => evEs C ρ cs st) hB N W fun μ2 st2 ds xs H2 L2 N2 rb W => ?_
    exact hB ▸ bi_ok N2.st rb W
theorem boot_ty (t : Ty) : bootBuiltins (tyS t) = some (.type (tyS t)) := by
  cases t <;> decide +kernel
theorem snd_isi (G : Good T C k X) {t : Bool} {ty : Ty} {x z : Str} {q : Pos} (h1 : callB X.env.scope x = true) (h2 : x = ("isinstance" : Str)) (h3 : T.bs.contains x = true) (h4 : callB X.env.scope z = true) (h5 : z = (tyS ty : Str)) (h6 : T.bs.contains z = true) (hs : notStar e = true) (ha : PE X e (tE X.K C a)) :
    Snd X C t (.isi a ty) (.Call (.Name x p) [e, .Name z q] [] pos) := by
  obtain ⟨g1, g2, g3⟩ := call_of h1
  obtain ⟨f1, f2, f3⟩ := call_of h4
  refine Snd.plain rfl ?_
  have hz : PE X (.Name z q) (tC (.ty (tyS ty))) := pe_bltn f1 (G.bs z h6) (by rw [h5]; exact boot_ty ty) rfl f3 f2
  refine PE.imp (pe_callB (call_isi (X := X)) g1 (G.bs x h3) (by rw [h2]; exact PyProof.Rows.boot_isinstance) (pa_cons ha (pa_cons hz pa_nil) (star_of hs)) g3 g2 (star_of hs) (plain_of (es := [.Name z q]) pos rfl)) fun σ H Q ⟨B, μ, ρ, st, hB, N, W⟩ => ?_
  simp only [evE] at W
  refine go (R := repD) (fun ρ st => evE C ρ a st) hB N W fun μ1 st1 d x H1 L N1 ra W => ?_
  obtain ⟨j, e1, q1⟩ := W.ofB N1.st
  show rIsi X.K [x, .ty (tyS ty)] H1 Q
  exact hB ▸ isi_ok N1.st e1 ra q1
/-! ### methods -/
theorem few_ok {es : List Expr} (hs : noStars es = true) (hl : es.length < 30) : ((backTo pos (starEach es X.env)).all (fun x => !x.1) && (backToKw pos (keywordEach [] X.env)).all (fun x => x.1.isSome)
      && decide (es.length + ([] : List Keyword).length + (if ([] : List Keyword).isEmpty then 0 else 1) < 30)) = true := by
  rw [few_of pos hs]
  simp [keywordEach, backToKw, hl]
theorem few_trees {e : Expr} {es : List Expr} (hs : noStars (e :: es) = true) : starEach (e :: es) X.env = (false, eval e X.env) :: starEach es X.env ∧ (backTo pos (starEach es X.env)).any (·.1) = false := by
  unfold noStars at hs
  rw [Bool.and_eq_true] at hs
  exact ⟨star_of hs.1, plain_of pos hs.2⟩
theorem pe_me {id : String} {r : V → List V → Hp → VK → Prop} {TT name : String} {apos : Pos} {es : List Expr} {o : Expr} {co : E} {cs : Es} (pa : PlainAttrs TT) (slot : Slot TT name id) (hty : typeOf (.builtin id) = pure (.type "method_descriptor")) (hm : MtR X id r) (ho : PE X o (tE X.K C co)) (ha : PA X es (tEs X.K C cs))
    (hl : es.length = 1) (hp : apos.endLine = pos.line) (hb : notCall0 o = true) (hs : noStars es = true) : PE X (.Call (.Attribute o name apos) es [] pos) (tBM X.K TT r (tE X.K C co) (tEs X.K C cs)) := by
  cases es with
  | nil => cases hl
  | cons e es =>
    obtain ⟨h1, h2⟩ := few_trees (X := X) (pos := pos) hs
    exact pe_bm pa slot hty hm ho ha (base_of hb) (few_ok hs (by omega)) (by rw [hp]; exact beq_self_eq_true _) h1 h2
theorem tBM_ok {TT : String} {r : V → List V → Hp → VK → Prop} {f : Me} {m : Bool} {co : E} {cs : Es} (hr : ∀ x vs H Q, meR X.K f x vs H Q → r x vs H Q) (hT : ∀ x H, meTy X.K f x H → tyV X.K TT x H) (σ : St) (H : Hp) (Q : VK) (w : tE X.K C (.me f m co cs) σ H Q) : tBM X.K TT r (tE X.K C co) (tEs X.K C cs) σ H Q := by
  obtain ⟨B, μ, ρ, st, hB, N, W⟩ := w
  simp only [evE] at W
  refine go (R := repD) (fun ρ st => evE C ρ co st) hB N W fun μ1 st1 d x H1 L N1 ra W => ?_
  by_cases hi : meIs st1 f d = true
  · rw [if_pos hi] at W
    refine ⟨hT _ _ (hB ▸ meIs_ok N1.st hi ra), ?_⟩
    refine go (R := repDs) (fun ρ st => evEs C ρ cs st) hB N1 W fun μ2 st2 ds xs H2 L2 N2 rb W => ?_
    exact hr _ _ _ _ (hB ▸ me_ok N2.st (Rep.mono L2 _ _ ra) rb W)
  · rw [if_neg hi] at W; exact W.not.elim
theorem snd_me (G : Good T C k X) {t m : Bool} {f : Me} {x : Str} {o : Expr} {co : E} {es : List Expr} {cs : Es} {apos : Pos} (hx : x = (meN f : Str)) (hl : es.length = meA f) (hp : apos.endLine = pos.line) (hb : notCall0 o = true) (hs : noStars es = true) (ho : PE X o (tE X.K C co))
    (ha : PA X es (tEs X.K C cs)) (h1 : ∀ e, es = [e] → ∃ c, cs = .cons c .nil ∧ PE X e (tE X.K C c)) (h2 : ∀ e g, es = [e, g] → ∃ c d, cs = .cons c (.cons d .nil) ∧ PE X e (tE X.K C c) ∧ PE X g (tE X.K C d)) (h0 : es = [] → cs = .nil) :
    Snd X C t (.me f m co cs) (.Call (.Attribute o x apos) es [] pos) := by
  refine Snd.plain rfl ?_
  subst hx
  have hu : X.A.units + 1 < cLine := by have := G.u; omega
  cases f with
  | join => exact PE.imp (pe_me PySem.F.plainAttrs_str PySem.F.slot_str_join PySem.F.type_str_join mt_join ho ha hl hp hb hs) (tBM_ok (fun _ _ _ _ h => h) fun _ _ h => h)
  | partition => exact PE.imp (pe_me PySem.F.plainAttrs_str PySem.F.slot_str_partition PySem.F.type_str_partition mt_partition ho ha hl hp hb hs) (tBM_ok (fun _ _ _ _ h => h) fun _ _ h => h)
  | split => exact PE.imp (pe_me PySem.F.plainAttrs_str PySem.F.slot_str_split PySem.F.type_str_split mt_split ho ha hl hp hb hs) (tBM_ok (fun _ _ _ _ h => h) fun _ _ h => h)
  | count => exact PE.imp (pe_me PySem.F.plainAttrs_str PySem.F.slot_str_count PySem.F.type_str_count mt_count ho ha hl hp hb hs) (tBM_ok (fun _ _ _ _ h => h) fun _ _ h => h)
  | append => exact PE.imp (pe_me PySem.F.plainAttrs_list PySem.F.slot_list_append PySem.F.type_list_append mt_append ho ha hl hp hb hs) (tBM_ok (fun _ _ _ _ h => h) fun _ _ h => h)
  | extend => exact PE.imp (pe_me PySem.F.plainAttrs_list PySem.F.slot_list_extend PySem.F.type_list_extend mt_extend ho ha hl hp hb hs) (tBM_ok (fun _ _ _ _ h => h) fun _ _ h => h)
  | get1 =>
    obtain ⟨e, rfl⟩ : ∃ e, es = [e] := by
      cases es with
      | nil => cases hl
      | cons e r => cases r with
        | nil => exact ⟨e, rfl⟩
        | cons _ _ => cases hl
    obtain ⟨c, rfl, he⟩ := h1 e rfl
    refine PE.imp (pe_dget1 hu ho he ⟨base_of hb, few_ok hs (by simp), by rw [hp]; exact beq_self_eq_true _, trees_of pos hs⟩) fun σ H Q ⟨B, μ, ρ, st, hB, N, W⟩ => ?_
    simp only [evE] at W
    refine go (R := repD) (fun ρ st => evE C ρ co st) hB N W fun μ1 st1 d x H1 L N1 ra W => ?_
    by_cases hi : meIs st1 .get1 d = true
    · rw [if_pos hi] at W
      obtain ⟨a, ex, hd⟩ := meIs_ok N1.st hi ra
      refine ⟨a, ex, hd, ?_⟩
      simp only [evEs] at W
      rw [bind_assoc] at W
      refine go (R := repD) (fun ρ st => evE C ρ c st) hB N1 W fun μ2 st2 d2 y H2 L2 N2 rb W => ?_
      obtain ⟨a', y', ov, e1, e2, e3, e4⟩ := me_ok (m := m) (f := .get1) N2.st (Rep.mono L2 _ _ ra) (show Reps B H2 μ2 [d2] [y] from ⟨y, [], rfl, rb, rfl⟩) W
      rw [ex] at e1; cases e1; cases e2
      exact ⟨ov, e3, e4⟩
    · rw [if_neg hi] at W; exact W.not.elim
  | get2 =>
    obtain ⟨e, g, rfl⟩ : ∃ e g, es = [e, g] := by
      cases es with
      | nil => cases hl
      | cons e r => cases r with
        | nil => cases hl
        | cons g r => cases r with
          | nil => exact ⟨e, g, rfl⟩
          | cons _ _ => cases hl
    obtain ⟨c, cd, rfl, he, hg⟩ := h2 e g rfl
    refine PE.imp (pe_dget2 hu ho he hg ⟨base_of hb, few_ok hs (by simp), by rw [hp]; exact beq_self_eq_true _, trees_of pos hs⟩) fun σ H Q ⟨B, μ, ρ, st, hB, N, W⟩ => ?_
    simp only [evE] at W
    refine go (R := repD) (fun ρ st => evE C ρ co st) hB N W fun μ1 st1 d x H1 L N1 ra W => ?_
    by_cases hi : meIs st1 .get2 d = true
    · rw [if_pos hi] at W
      obtain ⟨a, ex, hd⟩ := meIs_ok N1.st hi ra
      refine ⟨a, ex, hd, ?_⟩
      simp only [evEs] at W
      rw [bind_assoc] at W
      refine go (R := repD) (fun ρ st => evE C ρ c st) hB N1 W fun μ2 st2 d2 y H2 L2 N2 rb W => ?_
      rw [bind_assoc, bind_assoc] at W
      refine go (R := repD) (fun ρ st => evE C ρ cd st) hB N2 W fun μ3 st3 d3 z H3 L3 N3 rc W => ?_
      obtain ⟨a', y', z', ov, e1, e2, e3, e4⟩ := me_ok (m := m) (f := .get2) N3.st (Rep.mono (L2.trans L3) _ _ ra) (show Reps B H3 μ3 [d2, d3] [y, z] from ⟨y, [z], rfl, Rep.mono L3 _ _ rb, z, [], rfl, rc, rfl⟩) W
      rw [ex] at e1; cases e1; cases e2
      exact ⟨ov, e3, e4⟩
    · rw [if_neg hi] at W; exact W.not.elim
  | setdef =>
    obtain ⟨e, g, rfl⟩ : ∃ e g, es = [e, g] := by
      cases es with
      | nil => cases hl
      | cons e r => cases r with
        | nil => cases hl
        | cons g r => cases r with
          | nil => exact ⟨e, g, rfl⟩
          | cons _ _ => cases hl
    obtain ⟨c, cd, rfl, he, hg⟩ := h2 e g rfl
    refine PE.imp (pe_dsetd ho he hg ⟨base_of hb, few_ok hs (by simp), by rw [hp]; exact beq_self_eq_true _, trees_of pos hs⟩) fun σ H Q ⟨B, μ, ρ, st, hB, N, W⟩ => ?_
    simp only [evE] at W
    refine go (R := repD) (fun ρ st => evE C ρ co st) hB N W fun μ1 st1 d x H1 L N1 ra W => ?_
    by_cases hi : meIs st1 .setdef d = true
    · rw [if_pos hi] at W
      obtain ⟨a, ex, hd⟩ := meIs_ok N1.st hi ra
      refine ⟨a, ex, hd, ?_⟩
      simp only [evEs] at W
      rw [bind_assoc] at W
      refine go (R := repD) (fun ρ st => evE C ρ c st) hB N1 W fun μ2 st2 d2 y H2 L2 N2 rb W => ?_
      rw [bind_assoc, bind_assoc] at W
      refine go (R := repD) (fun ρ st => evE C ρ cd st) hB N2 W fun μ3 st3 d3 z H3 L3 N3 rc W => ?_
      obtain ⟨a', z', kvs, k', e1, e2, e3, e4, e5, e6⟩ := me_ok (m := m) (f := .setdef) N3.st (Rep.mono (L2.trans L3) _ _ ra) (show Reps B H3 μ3 [d2, d3] [y, z] from ⟨y, [z], rfl, Rep.mono L3 _ _ rb, z, [], rfl, rc, rfl⟩) W
      rw [ex] at e1; cases e1; cases e2
      exact ⟨kvs, k', e3, rfl, e4, e5, e6⟩
    · rw [if_neg hi] at W; exact W.not.elim
  | clear =>
    have hn : es = [] := by
      cases es with
      | nil => rfl
      | cons _ _ => cases hl
    subst hn
    obtain rfl := h0 rfl
    refine PE.imp (pe_bm0 PySem.F.plainAttrs_dict PySem.F.slot_dict_clear PySem.F.type_dict_clear mtd_clear ho (base_of hb) (by rw [hp]; exact beq_self_eq_true _)) fun σ H Q ⟨B, μ, ρ, st, hB, N, W⟩ => ?_
    simp only [evE, evEs] at W
    refine go (R := repD) (fun ρ st => evE C ρ co st) hB N W fun μ1 st1 d x H1 L N1 ra W => ?_
    by_cases hi : meIs st1 .clear d = true
    · rw [if_pos hi] at W
      refine ⟨hB ▸ meIs_ok N1.st hi ra, ?_⟩
      have := me_ok (m := m) (f := .clear) (vs := []) N1.st ra (show Reps B H1 μ1 [] [] from rfl) W
      exact this
    · rw [if_neg hi] at W; exact W.not.elim
end
end Rx

set_option Elab.async false
set_option linter.all false
set_option maxRecDepth 100000
set_option maxHeartbeats 400000
set_option autoImplicit false
namespace Rx
open PySem L2 TL

/-! ### what was made behind a hidden place -/
section
variable {B : Bg} {H1 Hc : Hp} {μ1 μc : List Addr} {st1 st : Store} {p : Addr} {o : HO}
theorem hid_out (S : StOk B H1 μ1 st1) (hp : H1 p = none) (hpc : p ∉ μc) : Out B μc p := ⟨hpc, fun hm => by
  obtain ⟨o, e⟩ := S.hid p hm
  rw [hp] at e; cases e⟩
theorem tr_show (hpc : p ∉ μc) : Tran (B.hide p) Hc μc B Hc (μc ++ [p]) := ⟨rfl, fun a o h e => ⟨⟨fun hx => by
    rcases List.mem_append.mp hx with z | z
    · exact h.1 z
    · exact h.2 (List.mem_cons.mpr (.inl (List.mem_singleton.mp z))), fun hx => h.2 (List.mem_cons_of_mem _ hx)⟩, e⟩, fun n a h => by
    rw [List.getElem?_append_left (List.getElem?_eq_some_iff.mp h).1]; exact h⟩
theorem hid_mut {c : Cell} (hp : H1 p = none) (Lc : Later H1 μ1 Hc μc) (S : StOk (B.hide p) Hc μc st) (hpc : p ∉ μc) (hc : CellOk (B.hide p) Hc μc p c) :
    Later H1 μ1 Hc (μc ++ [p]) ∧ StOk B Hc (μc ++ [p]) (st ++ [c]) ∧ (μc ++ [p])[st.length]? = some p := by
  have tq := tr_show (B := B) (Hc := Hc) hpc
  refine ⟨⟨Lc.keep, Lc.live, ?_⟩, ?_, ?_⟩
  · obtain ⟨r, e, h⟩ := Lc.more
    refine ⟨r ++ [p], by rw [e, List.append_assoc], fun a ha => ?_⟩
    rcases List.mem_append.mp ha with z | z
    · exact h a z
    · rw [List.mem_singleton.mp z]; exact hp
  · refine ⟨by rw [List.length_append, List.length_append, S.len]; rfl, ?_, fun a ha => S.hid a (List.mem_cons_of_mem _ ha), fun n a c' h1 h2 => ?_⟩
    · rw [List.nodup_append]
      exact ⟨S.nd, by simp, fun a ha b hb => by rw [List.mem_singleton.mp hb]; exact fun z => hpc (z ▸ ha)⟩
    · by_cases hn : n < μc.length
      · rw [List.getElem?_append_left hn] at h1
        rw [List.getElem?_append_left (by rw [← S.len]; exact hn)] at h2
        exact (S.cell n a c' h1 h2).tran tq fun _ e => e
      · have hn' : n = μc.length := by
          have := (List.getElem?_eq_some_iff.mp h1).1
          rw [List.length_append] at this
          simp at this; omega
        subst hn'
        rw [List.getElem?_append_right (Nat.le_refl _), Nat.sub_self] at h1
        rw [S.len, List.getElem?_append_right (Nat.le_refl _), Nat.sub_self] at h2
        simp at h1 h2; subst h1 h2
        exact hc.tran tq fun _ e => e
  · rw [← S.len, List.getElem?_append_right (Nat.le_refl _), Nat.sub_self]; rfl
end
section
variable {T : Tab} {C : CallF} {k : Nat} {X : Cx} {e e1 e2 e3 : Expr} {a b c : E} {pos p : Pos}
/-! ### dict displays -/
def flatP : List (V × V) → List V
  | [] => []
  | (x, y) :: r => x :: y :: flatP r
theorem pairs_rep {B : Bg} {H : Hp} {μ : List Addr} : ∀ (ps : List (V × V)) {ds : List D} {ks : List Ky} {us : List D}, pairsD ds = some (ks, us) → Reps B H μ ds (flatP ps) →
    ∃ kvs : List (Key × V), ps = kvs.map (fun kv => (kV kv.1, kv.2)) ∧ kvs.map Prod.fst = ks.map kyK ∧ Reps B H μ us (kvs.map Prod.snd)
  | [], ds, ks, us, e, r => by
    cases ds with
    | nil => cases e; exact ⟨[], rfl, rfl, rfl⟩
    | cons d ds => obtain ⟨_, _, h, _⟩ := r; cases h
  | (x, y) :: ps, ds, ks, us, e, r => by
    cases ds with
    | nil => cases r
    | cons d ds => cases ds with
      | nil => cases e
      | cons f ds =>
        obtain ⟨_, _, h, r1, r2⟩ := r
        cases h
        obtain ⟨_, _, h, r3, r4⟩ := r2
        cases h
        simp only [pairsD] at e
        obtain ⟨j, e1, e⟩ := Option.bind_eq_some_iff.mp e
        obtain ⟨q, e2, e⟩ := Option.map_eq_some_iff.mp e
        cases e
        obtain ⟨kvs, h1, h2, h3⟩ := pairs_rep ps (ks := q.1) (us := q.2) e2 r4
        have ex := kyOf_rep e1 r1
        subst ex
        exact ⟨(kyK j, y) :: kvs, by rw [h1]; rfl, by rw [List.map_cons, List.map_cons, h2], y, _, rfl, r3, h3⟩
theorem mergeK_app : ∀ (more acc : List (Key × V)), (more.map Prod.fst).Nodup → (∀ kv ∈ more, kv.1 ∉ acc.map Prod.fst) → mergeK acc more = acc ++ more
  | [], acc, _, _ => by simp [mergeK]
  | kv :: r, acc, hn, hd => by
    rw [List.map_cons, List.nodup_cons] at hn
    have h1 : putK acc kv.1 kv.2 = acc ++ [kv] := by
      unfold putK
      rw [if_neg]
      intro z
      rw [List.any_eq_true] at z
      obtain ⟨q, hq, e⟩ := z
      exact hd kv List.mem_cons_self (List.mem_map.mpr ⟨q, hq, of_decide_eq_true e⟩)
    show mergeK (putK acc kv.1 kv.2) r = _
    rw [h1, mergeK_app r _ hn.2]
    · simp
    · intro q hq z
      rw [List.map_append, List.mem_append] at z
      rcases z with z | z
      · exact hd q (List.mem_cons_of_mem _ hq) z
      · simp at z
        exact hn.1 (z ▸ List.mem_map.mpr ⟨q, hq, rfl⟩)
def trsOf (K : PySem.W.Frag) (C : CallF) : Es → List (TE × TE)
  | .cons c (.cons d r) => (tE K C c, tE K C d) :: trsOf K C r
  | _ => []
def esLen : Es → Nat
  | .nil => 0
  | .cons _ r => esLen r + 1
theorem tPairs_ok {K : PySem.W.Frag} : ∀ (n : Nat) (cs : Es) {B : Bg} {H : Hp} {μ : List Addr} {ρ : Slots} {σ : L2.St} {st : Store} {Qv : List V → Hp → Prop} {Q : List (V × V) → Hp → Prop}, esLen cs ≤ n → B.K = K → Now B H μ ρ σ st →
    Wd B H μ repDs (evEs C ρ cs st) Qv → (∀ ps H2, Qv (flatP ps) H2 → Q ps H2) → (trsOf K C cs).length * 2 = esLen cs → tPairs (trsOf K C cs) σ H Q
  | n, .nil, B, H, μ, ρ, σ, st, Qv, Q, _, hB, N, W, h, _ => by
    simp only [evEs] at W
    exact h [] H (W.here N.st (x := []) rfl)
  | n, .cons c .nil, B, H, μ, ρ, σ, st, Qv, Q, _, hB, N, W, h, hl => by simp [trsOf, esLen] at hl
  | 0, .cons c (.cons d r), B, H, μ, ρ, σ, st, Qv, Q, hn, hB, N, W, h, hl => by simp [esLen] at hn
  | n + 1, .cons c (.cons d r), B, H, μ, ρ, σ, st, Qv, Q, hn, hB, N, W, h, hl => by
    have hl' : (trsOf K C r).length * 2 = esLen r := by
      simp only [trsOf, esLen, List.length_cons] at hl; omega
    have hn' : esLen r ≤ n := by
      simp only [esLen] at hn; omega
    show tE K C c σ H _
    simp only [evEs, bind_assoc] at W
    refine go (R := repD) (fun ρ st => evE C ρ c st) hB N W fun μ1 st1 d1 x H1 L1 N1 ra W => ?_
    refine go (R := repD) (fun ρ st => evE C ρ d st) hB N1 W fun μ2 st2 d2 y H2 L2 N2 rb W => ?_
    have W2 : Wd B H2 μ2 repDs (evEs C ρ r st2) fun vs H3 => Qv (x :: y :: vs) H3 := by
      obtain ⟨dd, st', e, kk⟩ := W
      cases hz : evEs C ρ r st2 with
      | no => rw [hz] at e; cases e
      | ok ds st3 =>
        rw [hz] at e
        cases e
        exact ⟨ds, _, rfl, fun v H' μ' L S rr => kk _ H' μ' L S ⟨x, _, rfl, Rep.mono (L2.trans L) _ _ ra, y, v, rfl, Rep.mono L _ _ rb, rr⟩⟩
    exact tPairs_ok n r hn' hB N2 W2 (fun ps H3 q => h _ _ q) hl'
theorem snd_dct {t m : Bool} {cs : Es} {ks : List (Option Expr)} {vs : List Expr} (h : PPs X pos ks vs (trsOf X.K C cs)) (hall : ks.all (·.isSome) = true) (hl : ks.length = vs.length) (h2 : (trsOf X.K C cs).length * 2 = esLen cs) (hz : ks = [] → cs = .nil ∧ vs = [])
    (h15 : ks.length ≤ 15) : Snd X C t (.dct m cs) (.Dict ks vs pos) := by
  refine Snd.plain rfl ?_
  by_cases h0 : ks = []
  · obtain ⟨rfl, rfl⟩ := hz h0
    subst h0
    refine PE.imp pe_dnewK fun σ H Q ⟨B, μ, ρ, st, hB, N, W⟩ p hp => ?_
    replace W : Wd B H μ repD (newD m [] [] st) Q := Wd.eq (by simp only [evE, evEs, pairsD, bnd_ok]; exact if_pos (by decide)) W
    unfold newD at W
    by_cases hm : m = true
    · rw [if_pos hm] at W
      obtain ⟨d', st', e, kk⟩ := W
      cases e
      exact kk _ _ (μ ++ [p]) (Later.newM hp) (N.st.newM hp ⟨[], upd_same, rfl, rfl⟩) ⟨p, rfl, by rw [← N.st.len, List.getElem?_append_right (Nat.le_refl _), Nat.sub_self]; rfl⟩
    · rw [if_neg hm] at W
      exact W.new N.st hp ⟨p, [], rfl, ⟨N.st.fresh hp, upd_same⟩, rfl, rfl⟩
  · refine PE.imp (pe_disp h hall hl h0 h15) fun σ H Q ⟨B, μ, ρ, st, hB, N, W⟩ p hp => ?_
    have tr0 : Tran B H μ (B.hide p) (upd H p (.dK [])) μ := tr_hide hp
    have N0 : Now (B.hide p) (upd H p (.dK [])) μ ρ σ st := N.tran tr0 (N.st.hide hp)
    have hpm : p ∉ μ := (N.st.fresh hp).1
    simp only [evE] at W
    obtain ⟨dd, st', e, kk⟩ := W
    cases hev : evEs C ρ cs st with
    | no => rw [hev] at e; cases e
    | ok ds st2 =>
      rw [hev] at e
      simp only [Res.bind] at e
      cases hps : pairsD ds with
      | none => rw [hps] at e; cases e
      | some q =>
        obtain ⟨kys, us⟩ := q
        rw [hps] at e
        simp only at e
        by_cases hnd : kys.Nodup ∧ kys.length ≤ 15
        · rw [if_pos hnd] at e
          refine tPairs_ok (C := C) (esLen cs) cs (B := B.hide p) (Qv := fun vs H2 => ∃ μ2, Later (upd H p (.dK [])) μ H2 μ2 ∧ StOk (B.hide p) H2 μ2 st2 ∧ Reps (B.hide p) H2 μ2 ds vs) (Nat.le_refl _) hB N0 ⟨ds, st2, hev, fun v H' μ' L S r => ⟨μ', L, S, r⟩⟩ ?_ h2
          rintro ps H2 ⟨μ2, L2h, S2, r2⟩
          have hH2 : H2 p = some (.dK []) := L2h.keep p _ hpm upd_same
          have hp2 : p ∉ μ2 := L2h.out hpm upd_same
          obtain ⟨kvs, e1, e2, e3⟩ := pairs_rep ps hps r2
          have hkn : (kvs.map Prod.fst).Nodup := by
            rw [e2]
            exact hnd.1.map kyK fun a b hab z => hab (kyK_inj z)
          have hlen : kvs.length ≤ 15 := by
            have := congrArg List.length e2
            rw [List.length_map, List.length_map] at this
            omega
          refine ⟨hH2, kvs, e1, hlen, ?_⟩
          rw [mergeK_app kvs [] hkn (by simp), List.nil_append]
          have hm' : p ∈ (B.hide p).hid := List.mem_cons_self
          have S3 : StOk (B.hide p) (upd H2 p (.dK kvs)) μ2 st2 := S2.updH hm' hp2
          have r3 : Reps (B.hide p) (upd H2 p (.dK kvs)) μ2 us (kvs.map Prod.snd) := Reps.tran (tr_upd hm') _ _ e3
          have L3 : Later H μ (upd H2 p (.dK kvs)) μ2 := by
            have LL := (Later.new (o := .dK []) (μ := μ) hp).trans L2h
            refine ⟨fun a o h e => ?_, fun a o e => ?_, LL.more⟩
            · rw [upd_ne (ne_of_none e hp)]; exact LL.keep a o h e
            · rw [upd_ne (ne_of_none e hp)]; exact LL.live a o e
          unfold newD at e
          by_cases hm : m = true
          · rw [if_pos hm] at e
            cases e
            obtain ⟨q1, q2, q3⟩ := hid_mut (c := .dct kys us) hp L3 S3 hp2 ⟨kvs, upd_same, e2, r3⟩
            exact kk _ _ _ q1 q2 ⟨p, rfl, q3⟩
          · rw [if_neg hm] at e
            cases e
            exact kk _ _ μ2 L3 S3.bare ⟨p, kvs, rfl, ⟨hid_out N.st hp hp2, upd_same⟩, e2, Reps.tran tr_bare _ _ r3⟩
        · rw [if_neg hnd] at e; cases e
/-! ### tests of comprehensions -/
theorem pts_none' : PTs X [] (tC' X.K C .non) := ⟨fun pins s σ H Q I ⟨B, μ, ρ, st, hB, N, W⟩ => pts_nil.run pins s σ H Q I (by
  simp only [evC] at W
  exact W.here N.st (x := true) rfl)⟩
theorem pts_some' (h : PT X e (tT X.K C c)) : PTs X [e] (tC' X.K C (.som c)) := ⟨fun pins s σ H Q I ⟨B, μ, ρ, st, hB, N, W⟩ => (pts_one h).run pins s σ H Q I ⟨B, μ, ρ, st, hB, N, Wd.eq (by simp only [evC]) W⟩⟩
end
end Rx

set_option Elab.async false
set_option linter.all false
set_option maxRecDepth 100000
set_option maxHeartbeats 400000
set_option autoImplicit false
namespace Rx
open PySem L2 TL

section
variable {T : Tab} {C : CallF} {k : Nat} {X : Cx} {tg e e1 e2 e3 : Expr} {a b c d : E} {pos p : Pos}
/-! ### what is walked -/
theorem PI.imp' {t t' : TI} (h : PI X tg e t) (i : ∀ σ H Q, t' σ H Q → t σ H Q) : PI X tg e t' := ⟨fun pins s σ H Q I w => h.run pins s σ H Q I (i _ _ _ w)⟩
def iAny (K : PySem.W.Frag) (te : TE) : TI := fun σ H R => te σ H fun x H1 => (∃ a xs, x = .ref a ∧ SqL K H1 a xs ∧ R (Itl K a) H1) ∨ (∃ a xs, x = .ref a ∧ SqT K H1 a xs ∧ R (Itt K a) H1) ∨ ∃ z, x = .str z ∧ R (Its z) H1
theorem pi_any {te : TE} (he : PE X e te) : PI X tg e (iAny X.K te) := by
  refine ⟨fun pins s σ H R I h => ?_⟩
  refine thn (he.run pins s σ H _ I h) fun v s1 ⟨x, H1, I1, r1, q1⟩ => ?_
  rcases q1 with ⟨a, xs, ex, hq, q⟩ | ⟨a, xs, ex, hq, q⟩ | ⟨z, ex, q⟩
  · subst ex
    cases r1
    obtain ⟨its, rv, p, hz⟩ := I1.list hq
    refine wpAny_pyIter_list p.isList ?_
    refine ⟨s1.heap.objs.size, [s1.heap.objs.size], _, _, H1, rfl, I1.kept (t' := s1.toks) fun b o e => Heap.get?_push_of_some _ e, turn_list a _, ⟨_, Heap.get?_push_size _ rfl, rfl, rfl⟩, fun b hb => ?_, q⟩
    have e : b = s1.heap.objs.size := by simpa using hb
    subst e
    exact I1.fpOk (Nat.le_refl _) (I1.hok.fresh (Nat.le_refl _))
  · subst ex
    cases r1
    obtain ⟨its, rv, p, hz⟩ := I1.tuple hq
    refine wpAny_pyIter_tuple (show s1.heap.IsTuple a its.toArray from p) ?_
    refine ⟨s1.heap.objs.size, [s1.heap.objs.size], _, _, H1, rfl, I1.kept (t' := s1.toks) fun b o e => Heap.get?_push_of_some _ e, turn_tuple a _, ⟨_, Heap.get?_push_size _ rfl, rfl, rfl⟩, fun b hb => ?_, q⟩
    have e : b = s1.heap.objs.size := by simpa using hb
    subst e
    exact I1.fpOk (Nat.le_refl _) (I1.hok.fresh (Nat.le_refl _))
  · subst ex
    obtain ⟨t, rfl⟩ := r1
    cases ha : z.cps.all (· < 128)
    · exact wpAny_pyIter_wide ha (pi_one (tk := s1.toks) I1 _ (turn_str _ z t "str_iterator" (.inr rfl)) ⟨_, Heap.get?_push_size _ rfl, rfl, rfl⟩ q)
    · exact wpAny_pyIter_ascii ha (pi_one (tk := s1.toks) I1 _ (turn_str _ z t "str_ascii_iterator" (.inl rfl)) ⟨_, Heap.get?_push_size _ rfl, rfl, rfl⟩ q)
theorem wlk_of {f : D} {st : Store} {w : Walked} (h : wlkL f st = some w) : IsL f w.xs w.ats ∧ lroOf st f = some w.xs := by
  unfold wlkL at h
  split at h
  · cases h; exact ⟨.inl ⟨rfl, rfl⟩, rfl⟩
  · cases h; exact ⟨.inr (.inl ⟨rfl, rfl⟩), rfl⟩
  · split at h
    · rename_i q
      cases h
      exact ⟨.inr (.inr ⟨_, rfl, rfl⟩), by simp only [lroOf, q]⟩
    · cases h
  · cases h
theorem Wd.ofW {B : Bg} {H : Hp} {μ : List Addr} {st : Store} {o : Option Walked} {Q : It → Hp → Prop} (W : Wd B H μ repW (Res.of o st) Q) : ∃ w, o = some w ∧ Wd B H μ repW (.ok w st) Q := by
  cases o with
  | none => exact W.not.elim
  | some w => exact ⟨w, rfl, W⟩
theorem pi_it (he : PE X e (tE X.K C c)) : PI X tg e (tI X.K C (.it c)) := by
  refine PI.imp' (pi_any he) fun σ H Q ⟨B, μ, ρ, st, hB, N, W⟩ => ?_
  simp only [evI] at W
  refine go (R := repD) (fun ρ st => evE C ρ c st) hB N W fun μ1 st1 f x H1 L N1 ra W => ?_
  obtain ⟨w, e1, W⟩ := W.ofW
  unfold itOf at e1
  split at e1
  · cases e1
    obtain ⟨q, vs, rfl, hs, r2⟩ := sqT_of ra
    exact .inr (.inl ⟨q, vs, rfl, hB ▸ hs, hB ▸ W.here N1.st (Wk.tup ra)⟩)
  · cases e1
    cases ra
    exact .inr (.inr ⟨_, rfl, W.here N1.st (Wk.str _)⟩)
  · obtain ⟨h1, h2⟩ := wlk_of e1
    obtain ⟨q, vs, rfl, hs, r2⟩ := lro_rep N1.st h2 ra
    exact .inl ⟨q, vs, rfl, hB ▸ hs, hB ▸ W.here N1.st (Wk.lst h1 ra)⟩
theorem pa_one' {es : List Expr} (hs : notStar e = true) (h : PE X e (tE X.K C c)) : PA X [e] (tEs X.K C (.cons c .nil)) := pa_cons' hs h pa_nil'
theorem ev2 {α : Type} (ρ : Slots) (st : Store) (c d : E) (g : D → D → Store → Rx.Res α) : ((evE C ρ c st).bind fun x st => (evE C ρ d st).bind fun y st => g x y st) = (evEs C ρ (.cons c (.cons d .nil)) st).bind fun ds st => match ds with
    | [x, y] => g x y st
    | _ => .no := by
  simp only [evEs, bind_assoc, bnd_ok]
theorem ev1 {α : Type} (ρ : Slots) (st : Store) (c : E) (g : D → Store → Rx.Res α) : ((evE C ρ c st).bind fun x st => g x st) = (evEs C ρ (.cons c .nil) st).bind fun ds st => match ds with
    | [x] => g x st
    | _ => .no := by
  simp only [evEs, bind_assoc, bnd_ok]
theorem pi_rng {x : Str} (G : Good T C k X) (h1 : callB X.env.scope x = true) (h2 : x = ("range" : Str)) (h3 : T.bs.contains x = true) (hs : notStar e = true) (he : PE X e (tE X.K C c)) : PI X tg (.Call (.Name x p) [e] [] pos) (tI X.K C (.rng c)) := by
  obtain ⟨g1, g2, g3⟩ := call_of h1
  have hm := G.bs x h3
  subst h2
  refine PI.imp' (pi_range1 g1 hm (pa_one' (es := []) hs he) (by rw [star_of hs]; rfl)) fun σ H Q ⟨B, μ, ρ, st, hB, N, W⟩ => ?_
  simp only [evI] at W
  rw [ev1] at W
  refine go (R := repDs) (fun ρ st => evEs C ρ (.cons c .nil) st) hB N W fun μ1 st1 f x H1 L N1 ra W => ?_
  split at W
  · split at W
    · rename_i j
      obtain ⟨v, _, rfl, r1, rfl⟩ := ra
      cases r1
      split at W
      · rename_i hj
        exact ⟨j, rfl, hj.1, hj.2, by have := W.here N1.st (Wk.rang 0 j); rw [Int.sub_zero] at this; exact this⟩
      · exact W.not.elim
    · exact W.not.elim
  · exact W.not.elim
theorem pi_rng2 {x : Str} (G : Good T C k X) (h1 : callB X.env.scope x = true) (h2 : x = ("range" : Str)) (h3 : T.bs.contains x = true) (hs : notStar e1 = true) (hs2 : notStar e2 = true) (he : PE X e1 (tE X.K C c)) (hd : PE X e2 (tE X.K C d)) :
    PI X tg (.Call (.Name x p) [e1, e2] [] pos) (tI X.K C (.rng2 c d)) := by
  obtain ⟨g1, g2, g3⟩ := call_of h1
  have hm := G.bs x h3
  subst h2
  refine PI.imp' (pi_range2 g1 hm (pa_cons' hs he (pa_one' (es := []) hs2 hd)) (by rw [star_of hs, star_of hs2]; rfl) (by rw [star_of hs2]; rfl)) fun σ H Q ⟨B, μ, ρ, st, hB, N, W⟩ => ?_
  simp only [evI] at W
  rw [ev2] at W
  refine go (R := repDs) (fun ρ st => evEs C ρ (.cons c (.cons d .nil)) st) hB N W fun μ1 st1 f x H1 L N1 ra W => ?_
  split at W
  · split at W
    · rename_i i j
      obtain ⟨v, _, rfl, r1, w, _, rfl, r2, rfl⟩ := ra
      cases r1; cases r2
      split at W
      · rename_i hj
        exact ⟨i, j, rfl, ⟨hj.1.1, hj.1.2, hj.2.1, hj.2.2⟩, W.here N1.st (Wk.rang i j)⟩
      · exact W.not.elim
    · exact W.not.elim
  · exact W.not.elim
theorem pi_enm {x : Str} (G : Good T C k X) (ht : isTup tg = true) (h1 : callB X.env.scope x = true) (h2 : x = ("enumerate" : Str)) (h3 : T.bs.contains x = true) (hs : notStar e = true) (he : PE X e (tE X.K C c)) : PI X tg (.Call (.Name x p) [e] [] pos) (tI X.K C (.enum c)) := by
  obtain ⟨g1, g2, g3⟩ := call_of h1
  have hm := G.bs x h3
  subst h2
  cases tg <;> first | (cases ht; done) | skip
  refine PI.imp' (pi_enumX g1 hm (pa_one' (es := []) hs he) (by rw [star_of hs]; rfl)) fun σ H Q ⟨B, μ, ρ, st, hB, N, W⟩ => ?_
  simp only [evI] at W
  have W2 : Wd B H μ repW ((evEs C ρ (.cons c .nil) st).bind fun ds st => match ds with
    | [f] => .of (enumOf f st) st
    | _ => .no) Q := Wd.eq (by simp only [evEs, bind_assoc, bnd_ok]) W
  refine go (R := repDs) (fun ρ st => evEs C ρ (.cons c .nil) st) hB N W2 fun μ1 st1 f x H1 L N1 ra W => ?_
  split at W
  · obtain ⟨v, _, rfl, r1, rfl⟩ := ra
    obtain ⟨w, e1, W⟩ := W.ofW
    unfold enumOf at e1
    split at e1
    · cases e1
      obtain ⟨q, vs, rfl, hs, r2⟩ := sqT_of r1
      exact ⟨q, vs, rfl, .inr ⟨hB ▸ hs, hB ▸ W.here N1.st (Wk.enumT r1)⟩⟩
    · obtain ⟨w0, e2, e3⟩ := Option.map_eq_some_iff.mp e1
      cases e3
      obtain ⟨h1, h2⟩ := wlk_of e2
      obtain ⟨q, vs, rfl, hs, r2⟩ := lro_rep N1.st h2 r1
      exact ⟨q, vs, rfl, .inl ⟨hB ▸ hs, hB ▸ W.here N1.st (Wk.enum h1 r1)⟩⟩
  · exact W.not.elim
theorem pi_zp {x : Str} (G : Good T C k X) (ht : isTup tg = true) (h1 : callB X.env.scope x = true) (h2 : x = ("zip" : Str)) (h3 : T.bs.contains x = true) (hs : notStar e1 = true) (hs2 : notStar e2 = true) (he : PE X e1 (tE X.K C c)) (hd : PE X e2 (tE X.K C d)) :
    PI X tg (.Call (.Name x p) [e1, e2] [] pos) (tI X.K C (.zip c d)) := by
  obtain ⟨g1, g2, g3⟩ := call_of h1
  have hm := G.bs x h3
  subst h2
  cases tg <;> first | (cases ht; done) | skip
  refine PI.imp' (RZ.pi_zipA g1 hm (pa_cons' hs he (pa_one' (es := []) hs2 hd)) (by rw [star_of hs]) (by rw [star_of hs2]; rfl)) fun σ H Q ⟨B, μ, ρ, st, hB, N, W⟩ => ?_
  simp only [evI] at W
  rw [ev2] at W
  refine go (R := repDs) (fun ρ st => evEs C ρ (.cons c (.cons d .nil)) st) hB N W fun μ1 st1 f x H1 L N1 ra W => ?_
  split at W
  · split at W
    · obtain ⟨v, _, rfl, r1, w, _, rfl, r2, rfl⟩ := ra
      obtain ⟨q, vs, rfl, hs, r3⟩ := sqT_of r1
      obtain ⟨q2, vs2, rfl, hs2, r4⟩ := sqT_of r2
      exact ⟨q, q2, vs, vs2, rfl, .inr ⟨hB ▸ hs, hB ▸ hs2, hB ▸ W.here N1.st (Wk.zipT r1 r2)⟩⟩
    · obtain ⟨v, _, rfl, r1, w, _, rfl, r2, rfl⟩ := ra
      obtain ⟨w, e1, W⟩ := W.ofW
      obtain ⟨w1, e2, e3⟩ := Option.bind_eq_some_iff.mp e1
      obtain ⟨w2, e4, e5⟩ := Option.map_eq_some_iff.mp e3
      cases e5
      obtain ⟨h1, h2⟩ := wlk_of e2
      obtain ⟨h3, h4⟩ := wlk_of e4
      obtain ⟨q, vs, rfl, hs, r3⟩ := lro_rep N1.st h2 r1
      obtain ⟨q2, vs2, rfl, hs2, r4⟩ := lro_rep N1.st h4 r2
      exact ⟨q, q2, vs, vs2, rfl, .inl ⟨hB ▸ hs, hB ▸ hs2, hB ▸ W.here N1.st (Wk.zipL h1 r1 h3 r2)⟩⟩
  · exact W.not.elim
end
end Rx

set_option Elab.async false
set_option linter.all false
set_option maxRecDepth 100000
set_option maxHeartbeats 400000
set_option autoImplicit false
namespace Rx
open PySem L2 TL

section
variable {T : Tab} {C : CallF} {k : Nat}
theorem okEs_len {N : List Str} {sc : Scope} {t : Bool} : ∀ (cs : Es) (es : List Expr), okEs T N cs sc t es = true → es = [] → cs = .nil
  | .nil, _, _, _ => rfl
  | .cons _ _, [], h, _ => by cases h
  | .cons _ _, _ :: _, _, h => by cases h
theorem blk_fn {X : Cx} {s : Shared} {H : Hp} {scope : Scope} {cl : List (Str × Addr)} {c0 : Addr} {fp : List Addr} (x : Str) (h : locB scope x = true) :
    (X.blk s H scope (compEnvC scope cl c0 X.env) fp).fn x = true ∨ (X.blk s H scope (compEnvC scope cl c0 X.env) fp).env.scope.names.lookup x = some .local := by
  unfold locB at h
  split at h
  · rename_i q
    exact .inr (lookup_relabel_local q)
  · rename_i q
    exact .inl (show (scope.names.lookup x == some .cell) = true by rw [q]; rfl)
  · cases h
theorem okK_facts {N : List Str} {sc : Scope} {K : PySem.W.Frag} : ∀ (n : Nat) (cs : Es) (ks : List (Option Expr)) (vs : List Expr), esLen cs ≤ n → okK T N cs sc ks vs = true →
    ks.all (·.isSome) = true ∧ ks.length = vs.length ∧ (trsOf K C cs).length * 2 = esLen cs ∧ (ks = [] → cs = .nil ∧ vs = []) ∧ ks.length = (trsOf K C cs).length
  | n, .nil, ks, vs, _, h => by
    simp only [okK, Bool.and_eq_true, List.isEmpty_iff] at h
    obtain ⟨rfl, rfl⟩ := h
    exact ⟨rfl, rfl, rfl, fun _ => ⟨rfl, rfl⟩, rfl⟩
  | n, .cons c .nil, ks, vs, _, h => by simp [okK] at h
  | 0, .cons c (.cons d r), ks, vs, hn, h => by simp [esLen] at hn
  | n + 1, .cons c (.cons d r), [], vs, hn, h => by simp [okK] at h
  | n + 1, .cons c (.cons d r), none :: ks, vs, hn, h => by simp [okK] at h
  | n + 1, .cons c (.cons d r), some x :: ks, [], hn, h => by simp [okK] at h
  | n + 1, .cons c (.cons d r), some x :: ks, y :: vs, hn, h => by
    simp only [okK, Bool.and_eq_true] at h
    obtain ⟨h1, h2, h3, h4, h5⟩ := okK_facts (K := K) n r ks vs (by simp only [esLen] at hn; omega) h.2
    refine ⟨by simpa using h1, by rw [List.length_cons, List.length_cons, h2], ?_, (fun z => by cases z), ?_⟩
    · simp only [trsOf, esLen, List.length_cons]; omega
    · simp only [trsOf, List.length_cons]; omega
mutual
theorem soundE : ∀ (c : E) {X : Cx} (G : Good T C k X) (t : Bool) (e : Expr), okE T X.N c X.env.scope t e = true → Snd X C t c e
  | .lit d, X, G, t, e, h => by
    cases e <;> simp only [okE] at h <;> first | (cases h; done) | skip
    exact snd_lit h
  | .glo d, X, G, t, e, h => by
    cases e <;> simp only [okE] at h <;> first | (cases h; done) | skip
    rw [Bool.and_eq_true] at h
    obtain ⟨p, hp, h2⟩ := List.any_eq_true.mp h.2
    rw [Bool.and_eq_true, decide_eq_true_eq] at h2
    obtain ⟨q1, q2⟩ := h2
    have q3 := same_eq _ _ q2
    obtain ⟨px, pd⟩ := p
    cases q1; cases q3
    exact snd_glo G h.1 hp
  | .var i, X, G, t, e, h => by
    cases e <;> simp only [okE] at h <;> first | (cases h; done) | skip
    simp only [Bool.and_eq_true, decide_eq_true_eq] at h
    exact snd_var h.1.1 h.1.2 h.2
  | .bop o m a b, X, G, t, e, h => by
    cases e <;> simp only [okE] at h <;> first | (cases h; done) | skip
    simp only [Bool.and_eq_true, decide_eq_true_eq] at h
    obtain ⟨⟨h1, h2⟩, h3⟩ := h
    subst h1
    exact snd_bop ((soundE a G false _ h2).1 rfl) ((soundE b G false _ h3).1 rfl)
  | .neg a, X, G, t, e, h => by
    cases e with
    | UnaryOp op x p =>
      cases op <;> simp only [okE] at h <;> first | (cases h; done) | skip
      exact snd_neg ((soundE a G false _ h).1 rfl)
    | _ => simp only [okE] at h; cases h
  | .inot a, X, G, t, e, h => by
    cases e with
    | UnaryOp op x p =>
      cases op <;> simp only [okE] at h <;> first | (cases h; done) | skip
      exact snd_not (soundE a G t _ h)
    | _ => simp only [okE] at h; cases h
  | .tru a, X, G, t, e, h => by
    simp only [okE, Bool.and_eq_true] at h
    exact snd_tru h.1.1 h.1.2 ((soundE a G false _ h.2).1 rfl)
  | .cmp o a b, X, G, t, e, h => by
    unfold okE at h
    split at h
    · simp only [Bool.and_eq_true, decide_eq_true_eq] at h
      obtain ⟨⟨⟨h1, h2⟩, h3⟩, h4⟩ := h
      subst h1
      exact snd_cmp G h2 ((soundE a G false _ h3).1 rfl) ((soundE b G false _ h4).1 rfl)
    · cases h
  | .chn o p a b c, X, G, t, e, h => by
    unfold okE at h
    split at h
    · simp only [Bool.and_eq_true, decide_eq_true_eq] at h
      obtain ⟨⟨⟨⟨⟨⟨h1, h2⟩, h3⟩, h4⟩, h5⟩, h6⟩, h7⟩ := h
      subst h1 h2
      exact snd_chn G h3 h4 ((soundE a G false _ h5).1 rfl) ((soundE b G false _ h6).1 rfl) ((soundE c G false _ h7).1 rfl)
    · cases h
  | .ands es, X, G, t, e, h => by
    cases e with
    | BoolOp op vs p =>
      cases op <;> simp only [okE] at h <;> first | (cases h; done) | skip
      refine ⟨fun ht => ?_, fun ht => ?_⟩
      · subst ht
        exact PE.imp (soundAnd es G p vs h) fun σ H Q ⟨B, μ, ρ, st, hB, N, W⟩ => ⟨B, μ, ρ, st, hB, N, Wd.eq (by simp only [evE]) W⟩
      · subst ht
        exact PT.imp (soundAndB es G p vs h).pt fun σ H Q ⟨B, μ, ρ, st, hB, N, W⟩ => ⟨B, μ, ρ, st, hB, N, Wd.eq (by simp only [evE]) W⟩
    | _ => simp only [okE] at h; cases h
  | .ors es, X, G, t, e, h => by
    cases e with
    | BoolOp op vs p =>
      cases op <;> simp only [okE] at h <;> first | (cases h; done) | skip
      refine ⟨fun ht => ?_, fun ht => ?_⟩
      · subst ht
        exact PE.imp (soundOr es G p vs h) fun σ H Q ⟨B, μ, ρ, st, hB, N, W⟩ => ⟨B, μ, ρ, st, hB, N, Wd.eq (by simp only [evE]) W⟩
      · subst ht
        exact PT.imp (soundOrB es G p vs h).pt fun σ H Q ⟨B, μ, ρ, st, hB, N, W⟩ => ⟨B, μ, ρ, st, hB, N, Wd.eq (by simp only [evE]) W⟩
    | _ => simp only [okE] at h; cases h
  | .ite c a b, X, G, t, e, h => by
    cases e <;> simp only [okE] at h <;> first | (cases h; done) | skip
    simp only [Bool.and_eq_true] at h
    obtain ⟨⟨⟨h1, h2⟩, h3⟩, h4⟩ := h
    exact snd_ite (by simpa using h1) ((soundE c G true _ h2).2 rfl) ((soundE a G false _ h3).1 rfl) ((soundE b G false _ h4).1 rfl)
  | .tup es, X, G, t, e, h => by
    cases e <;> simp only [okE] at h <;> first | (cases h; done) | skip
    exact snd_tup (soundEs es G _ h)
  | .lst m es, X, G, t, e, h => by
    cases e <;> simp only [okE] at h <;> first | (cases h; done) | skip
    exact snd_lst (soundEs es G _ h)
  | .dct m es, X, G, t, e, h => by
    cases e <;> simp only [okE] at h <;> first | (cases h; done) | skip
    rw [Bool.and_eq_true, decide_eq_true_eq] at h
    obtain ⟨h1, h2, h3, h4, h5⟩ := okK_facts (C := C) (K := X.K) _ es _ _ (Nat.le_refl _) h.1
    exact snd_dct (soundK es G _ _ _ h.1) h1 h2 h3 h4 h.2
  | .ix a i, X, G, t, e, h => by
    cases e <;> simp only [okE] at h <;> first | (cases h; done) | skip
    simp only [Bool.and_eq_true] at h
    obtain ⟨⟨h1, h2⟩, h3⟩ := h
    exact snd_ix G h1 ((soundE a G false _ h2).1 rfl) ((soundE i G false _ h3).1 rfl)
  | .sl m a lo hi, X, G, t, e, h => by
    unfold okE at h
    split at h
    · simp only [Bool.and_eq_true] at h
      obtain ⟨⟨h1, h2⟩, h3⟩ := h
      exact snd_sl ((soundE a G false _ h1).1 rfl) (soundO lo G _ h2) (soundO hi G _ h3)
    · cases h
  | .call f es, X, G, t, e, h => by
    unfold okE at h
    split at h
    · simp only [Bool.and_eq_true, decide_eq_true_eq] at h
      obtain ⟨⟨h1, h2⟩, h3⟩ := h
      exact snd_call G h1 h2 (okEs_stars _ _ h3) (okEs_len _ _ h3) (soundEs es G _ h3)
    · cases h
  | .bi b m es, X, G, t, e, h => by
    unfold okE at h
    split at h
    · simp only [Bool.and_eq_true, decide_eq_true_eq] at h
      obtain ⟨⟨⟨⟨h1, h2⟩, h3⟩, h4⟩, h5⟩ := h
      exact snd_bi G h1 h2 h3 (by simpa using h4) (okEs_stars _ _ h5) (soundEs es G _ h5)
    · cases h
  | .isi a ty, X, G, t, e, h => by
    unfold okE at h
    split at h
    · simp only [Bool.and_eq_true, decide_eq_true_eq] at h
      obtain ⟨⟨⟨⟨⟨⟨⟨h1, h2⟩, h3⟩, h4⟩, h5⟩, h6⟩, h7⟩, h8⟩ := h
      exact snd_isi G h1 h2 h3 h4 h5 h6 h7 ((soundE a G false _ h8).1 rfl)
    · cases h
  | .me f m o es, X, G, t, e, h => by
    unfold okE at h
    split at h
    · simp only [Bool.and_eq_true, decide_eq_true_eq] at h
      obtain ⟨⟨⟨⟨⟨h1, h2⟩, h3⟩, h4⟩, h5⟩, h6⟩ := h
      refine snd_me G h1 h2 h3 h4 (okEs_stars _ _ h6) ((soundE o G false _ h5).1 rfl) (soundEs es G _ h6) (fun e he => ?_) (fun e g he => ?_) fun he => ?_
      · subst he
        exact sound1 es G e h6
      · subst he
        exact sound2 es G e g h6
      · subst he
        cases es with
        | nil => rfl
        | cons _ _ => simp [okEs] at h6
    · cases h
  | .lc m elt tg it c own, X, G, t, e, h => by
    unfold okE at h
    split at h
    · simp only [Bool.and_eq_true, List.all_eq_true, decide_eq_true_eq] at h
      obtain ⟨⟨⟨⟨⟨⟨⟨⟨h1, h2⟩, h3⟩, h4⟩, h5⟩, h6⟩, h7⟩, h8⟩, h9⟩ := h
      refine snd_lc G h1 (fun j hj => by simpa using h3 j hj) (soundI it G _ _ h7) h6 (fun s H c0 cl fp => ?_) (fun s H c0 cl fp => ?_) (fun s H c0 cl fp => ?_)
      · exact pg_of (sc2 := _) G.nd G.calm (fun x hx => blk_fn x hx) h4 h5
      · exact soundC c (G.blk s H _ _ fp) _ h8
      · exact (soundE elt (G.blk s H _ _ fp) false _ h9).1 rfl
    · cases h
theorem soundEs : ∀ (cs : Es) {X : Cx} (G : Good T C k X) (es : List Expr), okEs T X.N cs X.env.scope false es = true → PA X es (tEs X.K C cs)
  | .nil, X, G, es, h => by
    simp only [okEs, List.isEmpty_iff] at h
    subst h
    exact pa_nil'
  | .cons c cs, X, G, es, h => by
    cases es <;> simp only [okEs] at h <;> first | (cases h; done) | skip
    simp only [Bool.and_eq_true] at h
    exact pa_cons' h.1.1 ((soundE c G false _ h.1.2).1 rfl) (soundEs cs G _ h.2)
theorem sound1 : ∀ (cs : Es) {X : Cx} (G : Good T C k X) (e : Expr), okEs T X.N cs X.env.scope false [e] = true → ∃ c, cs = .cons c .nil ∧ PE X e (tE X.K C c)
  | .nil, X, G, e, h => by cases h
  | .cons c .nil, X, G, e, h => by
    simp only [okEs, Bool.and_eq_true] at h
    exact ⟨c, rfl, (soundE c G false _ h.1.2).1 rfl⟩
  | .cons c (.cons d r), X, G, e, h => by simp [okEs] at h
theorem sound2 : ∀ (cs : Es) {X : Cx} (G : Good T C k X) (e g : Expr), okEs T X.N cs X.env.scope false [e, g] = true → ∃ c d, cs = .cons c (.cons d .nil) ∧ PE X e (tE X.K C c) ∧ PE X g (tE X.K C d)
  | .nil, X, G, e, g, h => by cases h
  | .cons c .nil, X, G, e, g, h => by simp [okEs] at h
  | .cons c (.cons d .nil), X, G, e, g, h => by
    simp only [okEs, Bool.and_eq_true] at h
    exact ⟨c, d, rfl, (soundE c G false _ h.1.2).1 rfl, (soundE d G false _ h.2.1.2).1 rfl⟩
  | .cons c (.cons d (.cons _ _)), X, G, e, g, h => by simp [okEs] at h
theorem soundAnd : ∀ (cs : Es) {X : Cx} (G : Good T C k X) (p : Pos) (es : List Expr), okEs T X.N cs X.env.scope false es = true → PE X (.BoolOp .And es p) (tAnd' X.K C cs)
  | .nil, X, G, p, es, h => and_nil fun σ H Q ⟨B, μ, ρ, st, hB, N, W⟩ => by simp only [evAnd] at W; exact W.not
  | .cons c .nil, X, G, p, es, h => by
    cases es with
    | nil => cases h
    | cons e es =>
      simp only [okEs, Bool.and_eq_true, List.isEmpty_iff] at h
      obtain ⟨⟨_, h1⟩, rfl⟩ := h
      exact pe_and1 ((soundE c G false _ h1).1 rfl)
  | .cons c (.cons d r), X, G, p, es, h => by
    cases es with
    | nil => cases h
    | cons e es =>
      unfold okEs at h
      simp only [Bool.and_eq_true] at h
      have := soundAnd (.cons d r) G p es h.2
      cases es with
      | nil => cases h.2
      | cons f es => exact pe_andC ((soundE c G false _ h.1.2).1 rfl) this
theorem soundOr : ∀ (cs : Es) {X : Cx} (G : Good T C k X) (p : Pos) (es : List Expr), okEs T X.N cs X.env.scope false es = true → PE X (.BoolOp .Or es p) (tOr' X.K C cs)
  | .nil, X, G, p, es, h => and_nil fun σ H Q ⟨B, μ, ρ, st, hB, N, W⟩ => by simp only [evOr] at W; exact W.not
  | .cons c .nil, X, G, p, es, h => by
    cases es with
    | nil => cases h
    | cons e es =>
      simp only [okEs, Bool.and_eq_true, List.isEmpty_iff] at h
      obtain ⟨⟨_, h1⟩, rfl⟩ := h
      exact pe_or1 ((soundE c G false _ h1).1 rfl)
  | .cons c (.cons d r), X, G, p, es, h => by
    cases es with
    | nil => cases h
    | cons e es =>
      unfold okEs at h
      simp only [Bool.and_eq_true] at h
      have := soundOr (.cons d r) G p es h.2
      cases es with
      | nil => cases h.2
      | cons f es => exact pe_orC ((soundE c G false _ h.1.2).1 rfl) this
theorem soundAndB : ∀ (cs : Es) {X : Cx} (G : Good T C k X) (p : Pos) (es : List Expr), okEs T X.N cs X.env.scope true es = true → PW X (.BoolOp .And es p) (tAndB X.K C cs)
  | .nil, X, G, p, es, h => ⟨fun wh pins s σ H Q I ⟨B, μ, ρ, st, hB, N, W⟩ => by simp only [evAnd] at W; exact W.not.elim⟩
  | .cons c .nil, X, G, p, es, h => by
    cases es with
    | nil => cases h
    | cons e es =>
      simp only [okEs, Bool.and_eq_true, List.isEmpty_iff] at h
      obtain ⟨⟨_, h1⟩, rfl⟩ := h
      exact pw_and1' ((soundE c G true _ h1).2 rfl)
  | .cons c (.cons d r), X, G, p, es, h => by
    cases es with
    | nil => cases h
    | cons e es =>
      unfold okEs at h
      simp only [Bool.and_eq_true] at h
      have := soundAndB (.cons d r) G p es h.2
      cases es with
      | nil => cases h.2
      | cons f es => exact pw_andC ((soundE c G true _ h.1.2).2 rfl) this
theorem soundOrB : ∀ (cs : Es) {X : Cx} (G : Good T C k X) (p : Pos) (es : List Expr), okEs T X.N cs X.env.scope true es = true → PW X (.BoolOp .Or es p) (tOrB X.K C cs)
  | .nil, X, G, p, es, h => ⟨fun wh pins s σ H Q I ⟨B, μ, ρ, st, hB, N, W⟩ => by simp only [evOr] at W; exact W.not.elim⟩
  | .cons c .nil, X, G, p, es, h => by
    cases es with
    | nil => cases h
    | cons e es =>
      simp only [okEs, Bool.and_eq_true, List.isEmpty_iff] at h
      obtain ⟨⟨_, h1⟩, rfl⟩ := h
      exact pw_or1' ((soundE c G true _ h1).2 rfl)
  | .cons c (.cons d r), X, G, p, es, h => by
    cases es with
    | nil => cases h
    | cons e es =>
      unfold okEs at h
      simp only [Bool.and_eq_true] at h
      have := soundOrB (.cons d r) G p es h.2
      cases es with
      | nil => cases h.2
      | cons f es => exact pw_orC ((soundE c G true _ h.1.2).2 rfl) this
theorem soundK : ∀ (cs : Es) {X : Cx} (G : Good T C k X) (pos : Pos) (ks : List (Option Expr)) (vs : List Expr), okK T X.N cs X.env.scope ks vs = true → PPs X pos ks vs (trsOf X.K C cs)
  | .nil, X, G, pos, ks, vs, h => by
    simp only [okK, Bool.and_eq_true, List.isEmpty_iff] at h
    obtain ⟨rfl, rfl⟩ := h
    exact pps_nil
  | .cons c .nil, X, G, pos, ks, vs, h => by simp [okK] at h
  | .cons c (.cons d r), X, G, pos, ks, vs, h => by
    unfold okK at h
    split at h
    · simp only [Bool.and_eq_true] at h
      exact pps_cons ((soundE c G false _ h.1.1).1 rfl) ((soundE d G false _ h.1.2).1 rfl) (soundK r G pos _ _ h.2)
    · cases h
theorem soundO : ∀ (c : Oe) {X : Cx} (G : Good T C k X) (e : Option Expr), okO T X.N c X.env.scope e = true → PO X e (tO X.K C c)
  | .non, X, G, e, h => by
    cases e with
    | none => exact po_none'
    | some e => cases h
  | .som c, X, G, e, h => by
    cases e with
    | none => cases h
    | some e => exact po_some' ((soundE c G false _ h).1 rfl)
theorem soundC : ∀ (c : Oe) {X : Cx} (G : Good T C k X) (es : List Expr), okC T X.N c X.env.scope es = true → PTs X es (tC' X.K C c)
  | .non, X, G, es, h => by
    simp only [okC, List.isEmpty_iff] at h
    subst h
    exact pts_none'
  | .som c, X, G, es, h => by
    unfold okC at h
    split at h
    · exact pts_some' ((soundE c G true _ h).2 rfl)
    · cases h
theorem soundI : ∀ (c : I) {X : Cx} (G : Good T C k X) (g e : Expr), okI T X.N c X.env.scope g e = true → PI X g e (tI X.K C c)
  | .it c, X, G, g, e, h => by
    simp only [okI] at h
    exact pi_it ((soundE c G false _ h).1 rfl)
  | .rng c, X, G, g, e, h => by
    unfold okI at h
    split at h
    · simp only [Bool.and_eq_true, decide_eq_true_eq] at h
      obtain ⟨⟨⟨⟨h1, h2⟩, h3⟩, h4⟩, h5⟩ := h
      exact pi_rng G h1 h2 h3 h4 ((soundE c G false _ h5).1 rfl)
    · cases h
  | .rng2 c d, X, G, g, e, h => by
    unfold okI at h
    split at h
    · simp only [Bool.and_eq_true, decide_eq_true_eq] at h
      obtain ⟨⟨⟨⟨⟨⟨h1, h2⟩, h3⟩, h4⟩, h5⟩, h6⟩, h7⟩ := h
      exact pi_rng2 G h1 h2 h3 h4 h5 ((soundE c G false _ h6).1 rfl) ((soundE d G false _ h7).1 rfl)
    · cases h
  | .enum c, X, G, g, e, h => by
    unfold okI at h
    split at h
    · simp only [Bool.and_eq_true, decide_eq_true_eq] at h
      obtain ⟨⟨⟨⟨⟨h0, h1⟩, h2⟩, h3⟩, h4⟩, h5⟩ := h
      exact pi_enm G h0 h1 h2 h3 h4 ((soundE c G false _ h5).1 rfl)
    · cases h
  | .zip c d, X, G, g, e, h => by
    unfold okI at h
    split at h
    · simp only [Bool.and_eq_true, decide_eq_true_eq] at h
      obtain ⟨⟨⟨⟨⟨⟨⟨h0, h1⟩, h2⟩, h3⟩, h4⟩, h5⟩, h6⟩, h7⟩ := h
      exact pi_zp G h0 h1 h2 h3 h4 h5 ((soundE c G false _ h6).1 rfl) ((soundE d G false _ h7).1 rfl)
    · cases h
end
end
end Rx

set_option Elab.async false
set_option linter.all false
set_option maxRecDepth 100000
set_option maxHeartbeats 400000
set_option autoImplicit false
namespace Rx
open PySem L2 TL

/-! ### statements -/
abbrev FV := L2.St ⊕ V
def repF : RR Fl FV := fun B H μ f x => match f, x with
  | .nx ρ, .inl σ => ρ.length = σ.length ∧ ∀ (i : Nat) (d : D), ρ[i]? = some (some d) → ∃ v, σ[i]? = some (some v) ∧ Rep B H μ d v
  | .rt d, .inr v => Rep B H μ d v
  | _, _ => False
def QD (D : Ends) : FV → Hp → Prop := fun x H => match x with
  | .inl σ => D.nx σ H
  | .inr v => D.rt v H
def tS (K : PySem.W.Frag) (C : CallF) (s : S) : TS := fun D σ H => tR K repF (fun ρ st => evS C s ρ st) σ H (QD D)
def tSs (K : PySem.W.Frag) (C : CallF) (s : Ss) : TS := fun D σ H => tR K repF (fun ρ st => evSs C s ρ st) σ H (QD D)
section
variable {T : Tab} {C : CallF} {k : Nat} {X : Cx} {e e1 e2 e3 : Expr} {a b c : E} {pos : Pos}
section
variable {B : Bg} {H : Hp} {μ : List Addr} {ρ : Slots} {σ : L2.St} {st : Store} {D : Ends} {v : V} {d : Rx.D}
theorem endN (W : Wd B H μ repF (.ok (.nx ρ) st) (QD D)) (N : Now B H μ ρ σ st) : D.nx σ H := Wd.here (x := (Sum.inl σ : FV)) W N.st (show repF B H μ (.nx ρ) (.inl σ) from And.intro N.len N.sl)
theorem endL {H' : Hp} {μ' : List Addr} (W : Wd B H μ repF (.ok (.nx ρ) st) (QD D)) (L : Later H μ H' μ') (N : Now B H' μ' ρ σ st) : D.nx σ H' := by
  obtain ⟨d, st', e, kk⟩ := W
  cases e
  exact kk (.inl σ) H' μ' L N.st (show repF B H' μ' (.nx ρ) (.inl σ) from And.intro N.len N.sl)
theorem endR (W : Wd B H μ repF (.ok (.rt d) st) (QD D)) (S : StOk B H μ st) (r : Rep B H μ d v) : D.rt v H := Wd.here (x := (Sum.inr v : FV)) W S (show repF B H μ (.rt d) (.inr v) from r)
end
theorem ps_ret' (h : PE X e (tE X.K C c)) : PS X (.Return (some e) pos) (tS X.K C (.ret c)) := PS.imp (ps_ret h) fun D σ H ⟨B, μ, ρ, st, hB, N, W⟩ => by
  simp only [evS] at W
  exact go (R := repD) (fun ρ st => evE C ρ c st) hB N W fun μ1 st1 d x H1 L N1 ra W => endR W N1.st ra
theorem ps_retN' : PS X (.Return none pos) (tS X.K C .retN) := PS.imp ps_retN fun D σ H ⟨B, μ, ρ, st, hB, N, W⟩ => by
  simp only [evS] at W
  exact endR W N.st rfl
theorem ps_expr' (hs : notC e = true) (h : PE X e (tE X.K C c)) : PS X (.Expr e pos) (tS X.K C (.expr c)) := PS.imp (ps_expr h (swap_none hs)) fun D σ H ⟨B, μ, ρ, st, hB, N, W⟩ => by
  simp only [evS] at W
  exact go (R := repD) (fun ρ st => evE C ρ c st) hB N W fun μ1 st1 d x H1 L N1 ra W => endN W N1
theorem ps_pass' : PS X (.Pass pos) (tS X.K C .pass) := PS.imp ps_pass fun D σ H ⟨B, μ, ρ, st, hB, N, W⟩ => by
  simp only [evS] at W
  exact endN W N
theorem asg_ok {g : Tg} (D : Ends) (σ : L2.St) (H : Hp) (w : tS X.K C (.asg g c) D σ H) : tAsg (tE X.K C c) (gR X.K g) D σ H := by
  obtain ⟨B, μ, ρ, st, hB, N, W⟩ := w
  simp only [evS] at W
  refine go (R := repD) (fun ρ st => evE C ρ c st) hB N W fun μ1 st1 d x H1 L N1 ra W => ?_
  split at W
  · rename_i ρ' hb
    exact hB ▸ bind_ok hb ra N1 fun σ' N' _ => endN W N'
  · exact W.not.elim
theorem swaps_sole {t v : Expr} {l : Nat} : swapsWithSole [t] v l X.env = swapsWith v (some t) l X.env := rfl
theorem stores_none {is : List Nat} {es : List Expr} {j : Nat} {p : Pos} (hp : notPair e = true) : swappedStores [.Tuple es j p] e X.env = pure none := by
  cases e <;> first | rfl | cases hp
theorem ps_asg' {tg : Expr} {g : Tg} (hN : X.N.Nodup) (hc : X.calm = true) (hf : ∀ x, X.fn x = true) (hs : notC e = true) (hp : (match g with | .nm _ => true | .tu _ => notPair e) = true) (ht : tgB X.N X.env.scope g tg = true) (h : PE X e (tE X.K C c)) :
    PS X (.Assign [tg] e pos) (tS X.K C (.asg g c)) := by
  have pg := pg_of (sc2 := X.env.scope) hN hc (fun x _ => .inl (hf x)) ht ht
  refine PS.imp ?_ asg_ok
  cases g with
  | nm i =>
    cases tg <;> first | (cases ht; done) | skip
    exact ps_asg h pg (by rw [swaps_sole]; exact swap_none hs) (by cases e <;> rfl) rfl
  | tu is =>
    cases tg <;> first | (cases ht; done) | skip
    exact ps_asg h pg (by rw [swaps_sole]; exact swap_none hs) (stores_none (is := is) hp) rfl
theorem swap_of {v t : Expr} {l : Nat} {sc : Scope} (h : swapB sc v t l = true) : ∃ elt gs s p y py, v = .ListComp elt gs s p ∧ t = .Name y py ∧ sc.names.lookup y = some .local ∧ (py.line == p.line) = true ∧ (s.names.any fun (n, k) => n == y && (k == .local || k == .cell)) = false := by
  unfold swapB at h
  split at h
  · split at h
    · simp only [Bool.and_eq_true, Bool.not_eq_true'] at h
      refine ⟨_, _, _, _, _, _, rfl, rfl, ?_, h.1.2, h.2⟩
      have := h.1.1
      split at this
      · assumption
      · cases this
    · cases h
  · cases h
/-- o[i] = v -/
def rSetX : V → V → V → Hp → (Hp → Prop) → Prop := fun o i v H Q => rSetL o i v H Q ∨ ∃ a H', o = .ref a ∧ DPut H a i v H' ∧ Q H'
theorem set_X (hu : X.A.units + 1 < cLine) : PSet X rSetX := by
  intro pins s σ H o i v ov iv u Q I ro ri rv h
  rcases h with h | ⟨a, H', rfl, g, q⟩
  · exact set_list pins s σ H o i v ov iv u Q I ro ri rv h
  · obtain rfl : ov = Value.ref a := ro
    exact d_setItem hu I g ri rv fun s' I' => ⟨H', I', q⟩
theorem reps_set {B : Bg} {H : Hp} {μ : List Addr} {d : Rx.D} {x : V} (r0 : Rep B H μ d x) : ∀ {xs : List Rx.D} {vs : List V} {j : Nat}, Reps B H μ xs vs → Reps B H μ (xs.set j d) (vs.set j x)
  | [], _, _, h => by cases h; exact rfl
  | f :: fs, _, 0, h => by
    obtain ⟨w, ws, rfl, q1, q2⟩ := h
    exact ⟨x, ws, rfl, r0, q2⟩
  | f :: fs, _, j + 1, h => by
    obtain ⟨w, ws, rfl, q1, q2⟩ := h
    exact ⟨w, ws.set j x, rfl, q1, reps_set r0 q2⟩
theorem any_key {kvs : List (Key × V)} {ks : List Ky} {k : Ky} (hk : kvs.map Prod.fst = ks.map kyK) : (kvs.any fun kv => decide (kv.1 = kyK k)) = decide (k ∈ ks) := by
  rw [Bool.eq_iff_iff, List.any_eq_true, decide_eq_true_eq]
  constructor
  · rintro ⟨p, hp, e⟩
    have hm : p.1 ∈ ks.map kyK := hk ▸ List.mem_map.mpr ⟨p, hp, rfl⟩
    obtain ⟨k', hk', e'⟩ := List.mem_map.mp hm
    have := kyK_inj (e'.trans (of_decide_eq_true e))
    exact this ▸ hk'
  · intro hm
    have hm' : kyK k ∈ kvs.map Prod.fst := hk ▸ List.mem_map.mpr ⟨k, hm, rfl⟩
    obtain ⟨p, hp, e⟩ := List.mem_map.mp hm'
    exact ⟨p, hp, decide_eq_true e⟩
theorem repl_rep {B : Bg} {H : Hp} {μ : List Addr} {d : Rx.D} {x : V} {k : Ky} (r0 : Rep B H μ d x) : ∀ {ks : List Ky} {vs : List Rx.D} {kvs : List (Key × V)}, kvs.map Prod.fst = ks.map kyK → Reps B H μ vs (kvs.map Prod.snd) →
    (kvs.map fun kv => if kv.1 = kyK k then (kv.1, x) else kv).map Prod.fst = ks.map kyK ∧ Reps B H μ (replD ks vs k d) ((kvs.map fun kv => if kv.1 = kyK k then (kv.1, x) else kv).map Prod.snd)
  | [], vs, [], _, r => by
    cases vs with
    | nil => exact ⟨rfl, rfl⟩
    | cons _ _ => obtain ⟨_, _, e, _⟩ := r; cases e
  | [], _, _ :: _, h, _ => by cases h
  | _ :: _, _, [], h, _ => by cases h
  | k' :: ks, [], p :: kvs, h, r => by cases r
  | k' :: ks, f :: vs, p :: kvs, h, r => by
    rw [List.map_cons, List.map_cons] at h
    injection h with h1 h2
    rw [List.map_cons] at r
    obtain ⟨v, ws, e, r1, r2⟩ := r
    injection e with e1 e2
    subst e1 e2
    obtain ⟨q1, q2⟩ := repl_rep (k := k) r0 h2 r2
    by_cases hk : k' = k
    · subst hk
      refine ⟨?_, ?_⟩
      · rw [List.map_cons, List.map_cons, List.map_cons, q1, if_pos h1, h1]
      · rw [List.map_cons, List.map_cons, if_pos h1]
        simp only [replD, if_true]
        exact ⟨_, _, rfl, r0, q2⟩
    · have hn : ¬ p.1 = kyK k := fun z => hk (kyK_inj (h1.symm.trans z))
      refine ⟨?_, ?_⟩
      · rw [List.map_cons, List.map_cons, List.map_cons, q1, if_neg hn, h1]
      · rw [List.map_cons, List.map_cons, if_neg hn]
        simp only [replD, if_neg hk]
        exact ⟨_, _, rfl, r1, q2⟩
theorem ps_put {c : E} (hu : X.A.units + 1 < cLine) (hs : notC e3 = true) (hi : notSlice e2 = true) {p : Pos} (ho : PE X e1 (tE X.K C a)) (hx : PE X e2 (tE X.K C b)) (h : PE X e3 (tE X.K C c)) : PS X (.Assign [.Subscript e1 e2 p] e3 pos) (tS X.K C (.put a b c)) := by
  have pg : PG X (.Subscript e1 e2 p) (gSub (tE X.K C a) (tE X.K C b) rSetX) := pg_sub ho hx (set_X hu) (by intro v; cases e2 <;> first | rfl | cases hi)
  refine PS.imp (ps_asg h pg (by rw [swaps_sole]; exact swap_none hs) (by cases e3 <;> rfl) rfl) fun D σ H ⟨B, μ, ρ, st, hB, N, W⟩ => ?_
  simp only [evS] at W
  refine go (R := repD) (fun ρ st => evE C ρ c st) hB N W fun μ1 st1 d x H1 L N1 ra W1 => ?_
  show tE X.K C a σ H1 _
  refine go (R := repD) (fun ρ st => evE C ρ a st) hB N1 W1 fun μ2 st2 d2 x2 H2 L2 N2 rb W2 => ?_
  refine go (R := repD) (fun ρ st => evE C ρ b st) hB N2 W2 fun μ3 st3 d3 x3 H3 L3 N3 rc W3 => ?_
  clear W W1 W2
  have W := W3
  clear W3
  unfold putV at W
  split at W
  · rename_i n
    obtain ⟨q, rfl, h1⟩ := Rep.mono L3 _ _ rb
    split at W
    · rename_i xs hx
      split at W
      · rename_i i
        cases rc
        split at W
        · rename_i j hj
          obtain ⟨q', h2, cc⟩ := N3.st.of hx
          rw [h1] at h2; cases h2
          obtain ⟨vs, h3, r3⟩ := cc
          refine .inl ⟨q, vs, i, j, rfl, rfl, h3, by rw [r3.length]; exact hj, ?_⟩
          have LL : Later H3 μ3 (upd H3 q (.lst (vs.set j x))) μ3 := Later.upd (List.mem_of_getElem? h1)
          have r0 : Rep B (upd H3 q (.lst (vs.set j x))) μ3 d x := Rep.mono ((L2.trans L3).trans LL) _ _ ra
          have cell : CellOk B (upd H3 q (.lst (vs.set j x))) μ3 q (.lst (xs.set j d)) := ⟨_, upd_same, reps_set r0 (Reps.mono LL _ _ r3)⟩
          have N4 : Now B (upd H3 q (.lst (vs.set j x))) μ3 ρ σ (st3.set n (.lst (xs.set j d))) := N3.later LL (N3.st.upd h1 cell)
          exact endL W LL N4
        · exact W.not.elim
      · exact W.not.elim
    · rename_i ks us hx
      split at W
      · rename_i k hk
        split at W
        · rename_i hl
          obtain ⟨q', h2, cc⟩ := N3.st.of hx
          rw [h1] at h2; cases h2
          obtain ⟨kvs, h3, e3, r3⟩ := cc
          have ey := kyOf_rep hk rc
          subst ey
          have hlen : kvs.length = ks.length := by
            have e := congrArg List.length e3
            rw [List.length_map, List.length_map] at e
            exact e
          refine .inr ⟨q, _, rfl, DPut.k h3 (by rw [hlen, line_eq]; exact hl), ?_⟩
          have LL : Later H3 μ3 (upd H3 q (.dK (putK kvs (kyK k) x))) μ3 := Later.upd (List.mem_of_getElem? h1)
          have r0 : Rep B (upd H3 q (.dK (putK kvs (kyK k) x))) μ3 d x := Rep.mono ((L2.trans L3).trans LL) _ _ ra
          have r1 := Reps.mono LL _ _ r3
          have cell : CellOk B (upd H3 q (.dK (putK kvs (kyK k) x))) μ3 q (.dct (putD ks us k d).1 (putD ks us k d).2) := by
            refine ⟨_, upd_same, ?_⟩
            revert r0 r1
            generalize upd H3 q (.dK (putK kvs (kyK k) x)) = HH
            intro r0 r1
            unfold putK putD
            rw [any_key e3]
            by_cases hm : k ∈ ks
            · rw [if_pos hm, if_pos (decide_eq_true hm)]
              exact repl_rep r0 e3 r1
            · rw [if_neg hm, if_neg (by rw [decide_eq_false hm]; decide)]
              refine ⟨by simp [e3], ?_⟩
              rw [List.map_append]
              exact Reps.app r1 ⟨x, [], rfl, r0, rfl⟩
          have N4 : Now B (upd H3 q (.dK (putK kvs (kyK k) x))) μ3 ρ σ (st3.set n (.dct (putD ks us k d).1 (putD ks us k d).2)) := N3.later LL (N3.st.upd h1 cell)
          exact endL W LL N4
        · exact W.not.elim
      · exact W.not.elim
    · exact W.not.elim
  · exact W.not.elim
theorem ps_iff {p q : Ss} {x y : List Stmt} (hc : PT X e (tT X.K C c)) (h1 : PSs X x (tSs X.K C p)) (h2 : PSs X y (tSs X.K C q)) : PS X (.If e x y pos) (tS X.K C (.iff c p q)) := by
  refine PS.imp (ps_if hc h1 h2) fun D σ H ⟨B, μ, ρ, st, hB, N, W⟩ => ?_
  simp only [evS] at W
  refine go (R := repB) (fun ρ st => (evE C ρ c st).bind boolOf) hB N W fun μ1 st1 d x H1 L N1 ra W => ?_
  cases ra
  by_cases hd : d = true
  · subst hd
    exact iteT ⟨B, μ1, ρ, st1, hB, N1, Wd.eq (by simp) W⟩
  · have hd : d = false := by simpa using hd
    subst hd
    exact iteF ⟨B, μ1, ρ, st1, hB, N1, Wd.eq (by simp) W⟩
theorem pss_cons' {s : S} {ss : Ss} {x : Stmt} {xs : List Stmt} (h1 : PS X x (tS X.K C s)) (h2 : PSs X xs (tSs X.K C ss)) : PSs X (x :: xs) (tSs X.K C (.cons s ss)) := by
  refine PSs.imp (pss_cons h1 h2) fun D σ H ⟨B, μ, ρ, st, hB, N, W⟩ => ?_
  simp only [evSs] at W
  refine ⟨B, μ, ρ, st, hB, N, W.seq.imp fun x H1 ⟨μ1, d, st1, L, S, r, W⟩ => ?_⟩
  cases d with
  | nx ρ' =>
    cases x with
    | inl σ' => exact ⟨B, μ1, ρ', st1, hB, ⟨S, r.1, r.2⟩, W⟩
    | inr v => exact r.elim
  | rt d =>
    cases x with
    | inl σ' => exact r.elim
    | inr v =>
      show D.rt v H1
      exact endR (D := D) W S r
/-! ### for -/
theorem forL_nil {g : Store → Bool} {f : Rx.D → Slots → Store → Rx.Res Fl} {ρ : Slots} {st st' : Store} {x : Fl} (h : forL g f [] ρ st = .ok x st') : g st = true ∧ x = .nx ρ ∧ st' = st := by
  unfold forL at h
  by_cases hg : g st = true
  · rw [if_pos hg] at h; cases h; exact ⟨hg, rfl, rfl⟩
  · rw [if_neg hg] at h; cases h
theorem forL_cons {g : Store → Bool} {f : Rx.D → Slots → Store → Rx.Res Fl} {d : Rx.D} {ds : List Rx.D} {ρ : Slots} {st st' : Store} {x : Fl} (h : forL g f (d :: ds) ρ st = .ok x st') :
    g st = true ∧ ((f d ρ st).bind fun o st => match o with
      | .nx ρ => forL g f ds ρ st
      | .rt v => .ok (.rt v) st) = .ok x st' := by
  unfold forL at h
  by_cases hg : g st = true
  · rw [if_pos hg] at h; exact ⟨hg, h⟩
  · rw [if_neg hg] at h; cases h
theorem ps_for' {tg i : Expr} {g : Tg} {it : I} {bd : Ss} {x : List Stmt} (hp : PassesOwn (model X.prog X.w) X.A X.env X.xe) (hc : X.calm = true) (hs : notSet i = true) (hi : PI X tg i (tI X.K C it)) (hg : PG X tg (gR X.K g)) (hb : PSs X x (tSs X.K C bd)) :
    PS X (.For tg i x [] pos) (tS X.K C (.for_ g it bd)) := by
  refine PS.imp (ps_for hp hc hi hg hb (fold_of hs)) fun D σ H ⟨B, μ, ρ, st, hB, N, W⟩ => ?_
  rw [← hB]
  simp only [evS] at W
  refine go (R := repW) (fun ρ st => evI C ρ it st) rfl N W fun μ1 st1 w J H1 L N1 rw W1 => ?_
  clear W
  refine ⟨fun i mm σc Hc => mm = w.xs.length - i ∧ i ≤ w.xs.length ∧ ∃ μc stc ρc, Wk B Hc μc w J ∧ Now B Hc μc ρc σc stc ∧
    Wd B Hc μc repF (forL (guard w) (fun d ρ st => match bindT g d ρ with
      | none => .no
      | some ρ => evSs C bd ρ st) (w.xs.drop i) ρc stc) (QD D), ⟨_, rfl, Nat.zero_le _, μ1, st1, ρ, rw, N1, W1⟩, ?_⟩
  rintro i mm σc Hc ⟨rfl, hi, μc, stc, ρc, Wc, Nc, ev⟩
  obtain ⟨fl, st', e0, kk⟩ := ev
  by_cases hlt : i < w.xs.length
  · obtain ⟨xd, hx⟩ : ∃ x, w.xs[i]? = some x := ⟨_, List.getElem?_eq_getElem hlt⟩
    rw [drop_at hx] at e0
    obtain ⟨hg, e1⟩ := forL_cons e0
    obtain ⟨t1, t2, t3⟩ := Wc.turn Nc.st hg
    refine .inr ⟨t1 i hlt, _, fun σ' H' h => ⟨w.xs.length - (i + 1), by omega, rfl, hlt, h⟩, fun v H2 yl => ?_⟩
    obtain ⟨x', hx', L2h, S2, r2⟩ := t3 i v H2 hlt yl
    rw [hx] at hx'; cases hx'
    have N2 := Nc.later L2h S2
    cases hbind : bindT g xd ρc with
    | none => rw [hbind] at e1; cases e1
    | some ρ' =>
      rw [hbind] at e1
      refine bind_ok hbind r2 N2 fun σ' N3 _ => ?_
      refine ⟨B, μc, ρ', stc, rfl, N3, ?_⟩
      have W3 : Wd B H2 μc repF ((evSs C bd ρ' stc).bind fun o st => match o with
          | .nx ρ => forL (guard w) (fun d ρ st => match bindT g d ρ with
            | none => .no
            | some ρ => evSs C bd ρ st) (w.xs.drop (i + 1)) ρ st
          | .rt v => .ok (.rt v) st) (QD D) := ⟨fl, st', e1, fun v H' μ' L S r => kk v H' μ' (L2h.trans L) S r⟩
      have W4 := W3.seq (R := repF)
      obtain ⟨f1, s1, e2, k2⟩ := W4
      refine ⟨f1, s1, e2, fun y H' μ' L' S' r' => ?_⟩
      obtain ⟨μ5, f5, s5, L5, S5, r5, W5⟩ := k2 y H' μ' L' S' r'
      have Lall := L2h.trans L5
      cases f5 with
      | nx ρ5 =>
        cases y with
        | inl σ5 => exact ⟨μ5, s5, ρ5, Wc.tran Lall.tr, ⟨S5, r5.1, r5.2⟩, W5⟩
        | inr v => exact r5.elim
      | rt d5 =>
        cases y with
        | inl σ5 => exact r5.elim
        | inr v =>
          show D.rt v H'
          exact endR (D := D) W5 S5 r5
  · have hi' : i = w.xs.length := by omega
    subst hi'
    rw [List.drop_length] at e0
    obtain ⟨hg, rfl, rfl⟩ := forL_nil e0
    obtain ⟨t1, t2, t3⟩ := Wc.turn Nc.st hg
    exact .inl ⟨t2, kk (.inl σc) Hc μc Later.refl Nc.st (show repF B Hc μc (.nx ρc) (.inl σc) from And.intro Nc.len Nc.sl)⟩
theorem pss_nil' : PSs X [] (tSs X.K C .nil) := PSs.imp pss_nil fun D σ H ⟨B, μ, ρ, st, hB, N, W⟩ => by
  simp only [evSs] at W
  exact endN W N
end
end Rx

set_option Elab.async false
set_option linter.all false
set_option maxRecDepth 100000
set_option maxHeartbeats 400000
set_option autoImplicit false
namespace Rx
open PySem L2 TL

section
variable {T : Tab} {C : CallF} {k : Nat} {X : Cx}
theorem ps_asgL {cd : E} {i : Nat} {e t : Expr} {pos : Pos} (G : Good T C k X) (hsw : swapB X.env.scope e t pos.line = true) (hk : X.env.scope.kind = .function) (ht : tgB X.N X.env.scope (.nm i) t = true) (he : okE T X.N cd X.env.scope false e = true) :
    PS X (.Assign [t] e pos) (tAsg (tE X.K C cd) (gName i)) := by
  obtain ⟨elt, gs, s, p, y, py, rfl, rfl, h1, h2, h3⟩ := swap_of hsw
  have sw := sw_true (elt := elt) (gs := gs) (scope := s) (pos := p) (py := py) (y := y) (l := pos.line) (env := X.env) hk h1 h2 h3
  simp only [tgB, Bool.and_eq_true, decide_eq_true_eq] at ht
  cases cd <;> first | (simp [okE, plainT] at he; done) | skip
  unfold okE at he
  split at he
  · rename_i hh
    cases hh
    simp only [Bool.and_eq_true, List.all_eq_true, decide_eq_true_eq] at he
    obtain ⟨⟨⟨⟨⟨⟨⟨⟨h1', h2'⟩, h3'⟩, h4'⟩, h5'⟩, h6'⟩, h7'⟩, h8'⟩, h9'⟩ := he
    refine ps_lc G ht.1 h1 sw h1' (fun j hj => by simpa using h3' j hj) (soundI _ G _ _ h7') h6' (fun s H c0 cl fp => ?_) (fun s H c0 cl fp => ?_) (fun s H c0 cl fp => ?_)
    · exact pg_of (sc2 := _) G.nd G.calm (fun x hx => blk_fn x hx) h4' h5'
    · exact soundC _ (G.blk s H _ _ fp) _ h8'
    · exact (soundE _ (G.blk s H _ _ fp) false _ h9').1 rfl
  · cases he
mutual
theorem soundS (G : Good T C k X) (hp : PassesOwn (model X.prog X.w) X.A X.env X.xe) (hf : ∀ x, X.fn x = true) : ∀ (s : S) (x : Stmt), okS T X.N s X.env.scope x = true → PS X x (tS X.K C s)
  | .ret c, x, h => by
    unfold okS at h
    split at h
    · exact ps_ret' ((soundE c G false _ h).1 rfl)
    · cases h
  | .retN, x, h => by
    unfold okS at h
    split at h
    · exact ps_retN'
    · cases h
  | .expr c, x, h => by
    unfold okS at h
    split at h
    · rw [Bool.and_eq_true] at h
      exact ps_expr' h.1 ((soundE c G false _ h.2).1 rfl)
    · cases h
  | .pass, x, h => by
    unfold okS at h
    split at h
    · exact ps_pass'
    · cases h
  | .asg tg c, x, h => by
    unfold okS at h
    split at h
    · simp only [Bool.and_eq_true] at h
      obtain ⟨⟨⟨h1, h2⟩, h3⟩, h4⟩ := h
      rename_i g e pos
      by_cases hn : notC e = true
      · exact ps_asg' G.nd G.calm hf hn h2 h3 ((soundE c G false _ h4).1 rfl)
      · have h1 : (swapB X.env.scope e g pos.line && (match X.env.scope.kind with | .function => true | _ => false)) = true := by
          cases q : notC e with
          | true => exact absurd q hn
          | false => rw [q] at h1; exact h1
        rw [Bool.and_eq_true] at h1
        have hk : X.env.scope.kind = .function := by
          have := h1.2
          split at this
          · assumption
          · cases this
        cases tg with
        | nm i => exact PS.imp (ps_asgL G h1.1 hk h3 h4) asg_ok
        | tu is =>
          obtain ⟨_, _, _, _, _, _, _, rfl, _⟩ := swap_of h1.1
          simp [tgB] at h3
    · cases h
  | .put o i c, x, h => by
    unfold okS at h
    split at h
    · simp only [Bool.and_eq_true] at h
      obtain ⟨⟨⟨⟨h1, h2⟩, h3⟩, h4⟩, h5⟩ := h
      exact ps_put (by have := G.u; omega) h1 h2 ((soundE o G false _ h3).1 rfl) ((soundE i G false _ h4).1 rfl) ((soundE c G false _ h5).1 rfl)
    · cases h
  | .iff c a b, x, h => by
    unfold okS at h
    split at h
    · simp only [Bool.and_eq_true] at h
      obtain ⟨⟨h1, h2⟩, h3⟩ := h
      exact ps_iff ((soundE c G true _ h1).2 rfl) (soundSs G hp hf a _ h2) (soundSs G hp hf b _ h3)
    · cases h
  | .for_ tg it b, x, h => by
    unfold okS at h
    split at h
    · simp only [Bool.and_eq_true] at h
      obtain ⟨⟨⟨h0, h1⟩, h2⟩, h3⟩ := h
      exact ps_for' hp G.calm h0 (soundI it G _ _ h2) (pg_of (sc2 := X.env.scope) G.nd G.calm (fun x _ => .inl (hf x)) h1 h1) (soundSs G hp hf b _ h3)
    · cases h
theorem soundSs (G : Good T C k X) (hp : PassesOwn (model X.prog X.w) X.A X.env X.xe) (hf : ∀ x, X.fn x = true) : ∀ (s : Ss) (x : List Stmt), okSs T X.N s X.env.scope x = true → PSs X x (tSs X.K C s)
  | .nil, x, h => by
    simp only [okSs, List.isEmpty_iff] at h
    subst h
    exact pss_nil'
  | .cons s r, x, h => by
    unfold okSs at h
    split at h
    · rw [Bool.and_eq_true] at h
      exact pss_cons' (soundS G hp hf s _ h.1) (soundSs G hp hf r _ h.2)
    · cases h
end
end

/-! ### defs -/
def scB (N P : List Str) (sc : Scope) : Bool :=
  decide (sc.kind = .function) && !sc.isCoroutine && !sc.isGenerator && decide N.Nodup && decide (N.take P.length = P) && P.all (fun x => decide (sc.names.lookup x = some .local) || decide (sc.names.lookup x = some .cell)) && sc.names.all (fun y => !decide (y.2 = .free))
theorem sc_of {N P : List Str} {sc : Scope} (h : scB N P sc = true) : FnScope N P sc := by
  unfold scB at h
  simp only [Bool.and_eq_true, Bool.not_eq_true', decide_eq_true_eq, List.all_eq_true, Bool.or_eq_true, decide_eq_false_iff_not] at h
  obtain ⟨⟨⟨⟨⟨⟨h1, h2⟩, h3⟩, h4⟩, h5⟩, h6⟩, h7⟩ := h
  exact ⟨h1, h2, h3, h4, h5, h6, h7⟩
/-- a def: its name, its text, its code, its names -/
structure Df where
  x : Str
  st : Stmt
  fn : Fn
  N : List Str
def Df.ps (d : Df) : List Str := d.N.take d.fn.np
def okDf (T : Tab) (d : Df) : Bool := scB d.N d.ps (defScope d.st) && okSs T d.N d.fn.body (defScope d.st) (defBody d.st) && decide (d.ps.length = d.fn.np) && decide (d.N.length = d.fn.nn)
structure Have (K : PySem.W.Frag) (mg : Str → Option Value) (d : Df) (f : Addr) (fd : FuncData) : Prop where
  fn : Fun K d.x d.x d.st f fd
  mgf : mg d.x = some (.ref f)
  bnd : Binds K fd d.ps []
structure Env (K : PySem.W.Frag) (mg : Str → Option Value) (T : Tab) (ds : List Df) : Prop where
  fs : T.fs = ds.map (·.x)
  all : ∀ d ∈ ds, okDf T d = true ∧ ∃ f fd, Have K mg d f fd
  bs : ∀ x, T.bs.contains x = true → mg x = none
  gs : ∀ x d, (x, d) ∈ T.gs → ∃ u v, mg x = some u ∧ RelV v u ∧ ∀ B H μ, B.K = K → Rep B H μ d v
theorem start_now {B : Bg} {H : Hp} {μ : List Addr} {st : Store} {N : List Str} {ds : List D} {vs : List V} (S : StOk B H μ st) (r : Reps B H μ ds vs) : Now B H μ (startD N.length ds) (L2.start N vs) st := by
  refine ⟨S, ?_, fun i d e => ?_⟩
  · unfold startD L2.start
    rw [List.length_append, List.length_append, List.length_map, List.length_map, List.length_replicate, List.length_replicate, r.length]
  · unfold startD at e
    by_cases hi : i < ds.length
    · rw [List.getElem?_append_left (by rw [List.length_map]; exact hi), List.getElem?_map] at e
      cases q : ds[i]? with
      | none => rw [q] at e; cases e
      | some d' =>
        rw [q] at e; cases e
        obtain ⟨v, h1, h2⟩ := r.get q
        refine ⟨v, ?_, h2⟩
        unfold L2.start
        rw [List.getElem?_append_left (by rw [List.length_map, r.length]; exact hi), List.getElem?_map, h1]; rfl
    · rw [List.getElem?_append_right (by rw [List.length_map]; omega)] at e
      rw [List.getElem?_replicate] at e
      split at e <;> cases e
theorem callP_len {P : List Fn} {k f : Nat} {ds : List D} {st : Store} {fn : Fn} (h : P[f]? = some fn) (hn : callP P k f ds st ≠ .no) : ds.length = fn.np := by
  cases k with
  | zero => exact absurd rfl hn
  | succ k =>
    unfold callP at hn
    rw [h] at hn
    unfold runB at hn
    by_cases hl : ds.length = fn.np
    · exact hl
    · simp only [if_neg hl] at hn
      exact absurd rfl hn
section
variable {P : Program} {w : World} {K : PySem.W.Frag} {mg : Str → Option Value} {base : Heap} {T : Tab} {ds : List Df}
theorem defs_ok (E : Env K mg T ds) : ∀ (k i : Nat) (d : Df) (f : Addr) (fd : FuncData), ds[i]? = some d → Have K mg d f fd → FnOk P w K mg base L2.CX0 k f fd d.ps (spF K (callP (ds.map (·.fn)) k) i d.ps.length)
  | 0, i, d, f, fd, hi, hv => by
    have no : ∀ vs H Q E, ¬ spF K (callP (ds.map (·.fn)) 0) i d.ps.length vs H Q E := fun vs H Q E ⟨B, μ, st, ds', _, _, _, _, W⟩ => W.not
    exact ⟨fun vs H Q E h => absurd h (no vs H Q E), fun A outer s H args us vs Q E _ _ _ _ h => absurd h (no vs H Q E)⟩
  | k + 1, i, d, f, fd, hi, hv => by
    obtain ⟨hok, _⟩ := E.all d (List.mem_of_getElem? hi)
    unfold okDf at hok
    simp only [Bool.and_eq_true, decide_eq_true_eq] at hok
    obtain ⟨⟨⟨h1, h2⟩, h3⟩, h4⟩ := hok
    have S := sc_of h1
    refine hv.fn.ok S (fun vs H Q E ⟨B, μ, st, ds', _, _, _, hl, _⟩ => hl) fun cdv A outer s H vs Q E' hr h => ?_
    obtain ⟨B, μ, st, ds', hB, hS, hR, hl, W⟩ := h
    have G : Good T (callP (ds.map (·.fn)) k) k (cxOf L2.CX0 P w K mg base d.N d.x (defScope d.st) f cdv A outer s H E').nox := by
      refine ⟨S.nd, rfl, hr, E.bs, E.gs, fun g x hx => ?_⟩
      rw [E.fs, List.getElem?_map] at hx
      cases q : ds[g]? with
      | none => rw [q] at hx; cases hx
      | some d2 =>
        rw [q] at hx
        cases hx
        obtain ⟨hok2, fa, fd2, hv2⟩ := E.all d2 (List.mem_of_getElem? q)
        unfold okDf at hok2
        simp only [Bool.and_eq_true, decide_eq_true_eq] at hok2
        refine ⟨fa, fd2, d2.ps, hv2.mgf, hv2.fn.kp, hv2.bnd, fun dds st hne => ?_, defs_ok E k g d2 fa fd2 q hv2⟩
        rw [callP_len (fn := d2.fn) (by rw [List.getElem?_map, q]; rfl) hne, hok2.1.2]
    refine ⟨_, soundSs G (fun _ _ z => z.elim) (fun _ => rfl) d.fn.body (defBody d.st) h2, B, μ, startD d.fn.nn ds', st, hB, h4 ▸ start_now hS hR, ?_⟩
    obtain ⟨r, st', e, kk⟩ := W
    unfold callP at e
    rw [List.getElem?_map, hi] at e
    simp only [Option.map_some, runB] at e
    have hlen : ds'.length = d.fn.np := by rw [← hR.length, hl, h3]
    rw [if_pos hlen] at e
    cases hz : evSs (callP (ds.map (·.fn)) k) d.fn.body (startD d.fn.nn ds') st with
    | no => rw [hz] at e; cases e
    | ok fl st2 =>
      rw [hz] at e
      refine ⟨fl, st2, hz, fun y H' μ' L S' r' => ?_⟩
      cases fl with
      | nx ρ =>
        cases e
        cases y with
        | inl σ => exact kk .non H' μ' L S' rfl
        | inr v => exact r'.elim
      | rt dd =>
        cases e
        cases y with
        | inl σ => exact r'.elim
        | inr v => exact kk v H' μ' L S' r'
/-- what law(script) is asked -/
theorem script_rep {B : Bg} {H : Hp} {a : Addr} {ns : List Int} (h : SqL B.K H a (ns.map V.int)) (hh : B.hid = []) : Rep B H [] (.ro (ns.map D.int)) (.ref a) := by
  have rs : ∀ ns : List Int, Reps B H [] (ns.map D.int) (ns.map V.int) := by
    intro ns
    induction ns with
    | nil => exact rfl
    | cons n ns ih => exact ⟨_, _, rfl, rfl, ih⟩
  refine ⟨a, ns.map V.int, rfl, ?_, rs ns⟩
  rcases h with h | h
  · exact .inl ⟨⟨by simp, by rw [hh]; simp⟩, h⟩
  · exact .inr h
end
/-! ### the top -/
theorem bs_of {mg : Str → Option Value} {l : List Str} (h : ∀ x ∈ l, mg x = none) : ∀ x, l.contains x = true → mg x = none := fun x hx => h x (by simpa using hx)
theorem all_nil {α : Type} {p : α → Prop} : ∀ x ∈ ([] : List α), p x := fun x h => by cases h
theorem all_cons {α : Type} {p : α → Prop} {a : α} {l : List α} (h : p a) (r : ∀ x ∈ l, p x) : ∀ x ∈ a :: l, p x := fun x hx => by
  rcases List.mem_cons.mp hx with z | z
  · exact z ▸ h
  · exact r x z
/-- a global of the top -/
def Glob (K : PySem.W.Frag) (mg : Str → Option Value) (p : Str × D) : Prop := ∃ u v, mg p.1 = some u ∧ RelV v u ∧ ∀ B H μ, B.K = K → Rep B H μ p.2 v
theorem gs_of {K : PySem.W.Frag} {mg : Str → Option Value} {l : List (Str × D)} (h : ∀ p ∈ l, Glob K mg p) : ∀ x d, (x, d) ∈ l → ∃ u v, mg x = some u ∧ RelV v u ∧ ∀ B H μ, B.K = K → Rep B H μ d v := fun x d hx => h (x, d) hx
theorem glob_int {K : PySem.W.Frag} {h : Heap} {mg : Str → Option Value} {x : Str} {i : Int} {t : Tok} (KX : K.In h) (G : h.Ns mainGlobals mg) (e : PySem.W.nsIn K mainGlobals x = some (some (.int i t))) : Glob K mg (x, .int i) :=
  ⟨_, .int i, PySem.W.mg_of KX G e, ⟨t, rfl⟩, fun _ _ _ _ => rfl⟩
theorem glob_str {K : PySem.W.Frag} {h : Heap} {mg : Str → Option Value} {x : Str} {s : String} {t : Tok} (KX : K.In h) (G : h.Ns mainGlobals mg) (e : PySem.W.nsIn K mainGlobals x = some (some (.str (Str.ofString s) t))) : Glob K mg (x, .str s) :=
  ⟨_, .str (Str.ofString s), PySem.W.mg_of KX G e, ⟨t, rfl⟩, fun _ _ _ _ => rfl⟩
theorem walk {l : PySem.W.OpenLaw} {q : Program} {loose : List Str} {XP : (Str → Option Value) → Heap → Prop} {YP : World → Heap → Prop} {d : DefRec} {K : Params → PySem.W.Frag} {T : Tab} {ds : List Df} {i k : Nat} {x : Str} (hn : l.most = some 63) (hdf : d.params.defaults = [])
    (hr : Room k callerA) (hY : ∀ (w : World) (h : Heap), YP w h → (K w.params).In h)
    (df : Df) (hi : ds[i]? = some df) (hx : df.x = d.name) (hps : df.ps = [x])
    (hE : ∀ (w : World) (mg : Str → Option Value) (h : Heap), (K w.params).In h → h.Ns mainGlobals mg → Env (K w.params) mg T ds)
    (hB : ∀ (w : World) (mg : Str → Option Value) (f : Addr) (fd : FuncData), Have (K w.params) mg df f fd → ∀ (s : Shared) (u : Value), BindsTo s fd ⟨[u], []⟩ [(x, u)])
    (law : ∀ ns : List Int, ns.length ≤ 63 → ∃ st', callP (ds.map (·.fn)) k i [.ro (ns.map D.int)] [] = .ok (.bl true) st') :
    PySem.W.WalkO q loose XP YP l.row.toRowW d [] (fun f vs => PySem.call f vs) := by
  refine L2.walk_ofK (n := 63) (k := k) (x := x) (CX := L2.CX0) (K := K) (sp := fun K => spF K (callP (ds.map (·.fn)) k) i 1) hn (by decide) hdf hr hY (fun w mg fa h hK hG hfa => ?_) (fun K H a ns hl _ hS => ?_) fun _ _ _ _ z => z
  · have E := hE w mg h hK hG
    obtain ⟨_, f, fd, hv⟩ := E.all df (List.mem_of_getElem? hi)
    have e : fa = f := by
      have := hv.mgf
      rw [hx, hfa] at this
      cases this; rfl
    subst e
    refine ⟨fd, hB w mg fa fd hv, fun base hb hbn => ?_⟩
    have := defs_ok (P := l.prog) (w := w) (base := base) E k i df fa fd hi hv
    rw [hps] at this
    exact this
  · obtain ⟨st', e⟩ := law ns hl
    exact ⟨⟨K, []⟩, [], [], [.ro (ns.map D.int)], rfl, ⟨rfl, List.nodup_nil, fun a h => absurd h (by simp), fun n a c h => by simp at h⟩, ⟨.ref a, [], rfl, script_rep (B := ⟨K, []⟩) hS rfl, rfl⟩, rfl, .bl true, st', e, fun v H' μ' L S r => r⟩
end Rx

set_option Elab.async false
set_option linter.all false
set_option autoImplicit false
namespace Rx
/-! ### what an evaluation comes to -/
def W {α : Type} (r : Res α) (Q : α → Store → Prop) : Prop := match r with
  | .ok a st => Q a st
  | .no => False
section
variable {α β : Type} {a : α} {st : Store} {Q Q' : α → Store → Prop} {r : Res α}
@[simp] theorem W_ok : W (.ok a st) Q = Q a st := rfl
@[simp] theorem W_no : W .no Q = False := rfl
@[simp] theorem W_bind {f : α → Store → Res β} {Q : β → Store → Prop} : W (r.bind f) Q = W r (fun a st => W (f a st) Q) := by cases r <;> rfl
theorem W.mono (h : W r Q) (i : ∀ a st, Q a st → Q' a st) : W r Q' := by
  cases r with
  | ok a st => exact i a st h
  | no => exact h
theorem W.get (h : W r Q) : ∃ a st, r = .ok a st ∧ Q a st := by
  cases r with
  | ok a st => exact ⟨a, st, rfl, h⟩
  | no => exact h.elim
@[simp] theorem W_ite {c : Prop} [Decidable c] {x y : Res α} : W (if c then x else y) Q = if c then W x Q else W y Q := by split <;> rfl
theorem W_guard {c : Prop} [Decidable c] : W (if c then r else .no) Q ↔ c ∧ W r Q := by
  by_cases h : c <;> simp [h]
@[simp] theorem of_some {a : α} : Res.of (some a) st = .ok a st := rfl
@[simp] theorem of_none : Res.of (none : Option α) st = .no := rfl
theorem W_of {o : Option α} : W (Res.of o st) Q ↔ ∃ a, o = some a ∧ Q a st := by cases o <;> simp
end
section
variable {C : CallF} {ρ : Slots} {st : Store} {m : Bool} {i j : Int} {xs ys : List D} {s t : String} {Q : D → Store → Prop} {QB : Bool → Store → Prop} {b : Bool} {n : Nat}
@[simp] theorem boolOf_bl {b : Bool} : boolOf (.bl b) st = .ok b st := rfl
@[simp] theorem newL_t : newL true xs st = .ok (.loc st.length) (st ++ [.lst xs]) := rfl
@[simp] theorem newL_f : newL false xs st = .ok (.lst xs) st := rfl
@[simp] theorem newD_t {ks : List Ky} : newD true ks xs st = .ok (.loc st.length) (st ++ [.dct ks xs]) := rfl
@[simp] theorem newD_f {ks : List Ky} : newD false ks xs st = .ok (.dct ks xs) st := rfl
@[simp] theorem le_LINE0 : (0 : Nat) ≤ LINE := by decide
@[simp] theorem lt_LINE0 : (0 : Nat) < LINE := by decide
@[simp] theorem le_LINE1 : (1 : Nat) ≤ LINE := by decide
@[simp] theorem lt_LINE1 : (1 : Nat) < LINE := by decide
@[simp] theorem le_LINE2 : (2 : Nat) ≤ LINE := by decide
@[simp] theorem lt_LINE2 : (2 : Nat) < LINE := by decide
@[simp] theorem le_LINE3 : (3 : Nat) ≤ LINE := by decide
@[simp] theorem lt_LINE3 : (3 : Nat) < LINE := by decide
@[simp] theorem le_LINE4 : (4 : Nat) ≤ LINE := by decide
@[simp] theorem lt_LINE4 : (4 : Nat) < LINE := by decide
@[simp] theorem le_LINE5 : (5 : Nat) ≤ LINE := by decide
@[simp] theorem lt_LINE5 : (5 : Nat) < LINE := by decide
@[simp] theorem le_LINE6 : (6 : Nat) ≤ LINE := by decide
@[simp] theorem lt_LINE6 : (6 : Nat) < LINE := by decide
@[simp] theorem le_LINE7 : (7 : Nat) ≤ LINE := by decide
@[simp] theorem lt_LINE7 : (7 : Nat) < LINE := by decide
@[simp] theorem le_LINE8 : (8 : Nat) ≤ LINE := by decide
@[simp] theorem lt_LINE8 : (8 : Nat) < LINE := by decide
@[simp] theorem le_LINE9 : (9 : Nat) ≤ LINE := by decide
@[simp] theorem lt_LINE9 : (9 : Nat) < LINE := by decide
@[simp] theorem le_LINE10 : (10 : Nat) ≤ LINE := by decide
@[simp] theorem lt_LINE10 : (10 : Nat) < LINE := by decide
@[simp] theorem le_LINE11 : (11 : Nat) ≤ LINE := by decide
@[simp] theorem lt_LINE11 : (11 : Nat) < LINE := by decide
@[simp] theorem le_LINE12 : (12 : Nat) ≤ LINE := by decide
@[simp] theorem lt_LINE12 : (12 : Nat) < LINE := by decide
@[simp] theorem le_LINE13 : (13 : Nat) ≤ LINE := by decide
@[simp] theorem lt_LINE13 : (13 : Nat) < LINE := by decide
@[simp] theorem le_LINE14 : (14 : Nat) ≤ LINE := by decide
@[simp] theorem lt_LINE14 : (14 : Nat) < LINE := by decide
@[simp] theorem le_LINE15 : (15 : Nat) ≤ LINE := by decide
@[simp] theorem lt_LINE15 : (15 : Nat) < LINE := by decide
@[simp] theorem le_LINE16 : (16 : Nat) ≤ LINE := by decide
@[simp] theorem lt_LINE16 : (16 : Nat) < LINE := by decide
@[simp] theorem le_LINE17 : (17 : Nat) ≤ LINE := by decide
@[simp] theorem lt_LINE17 : (17 : Nat) < LINE := by decide
@[simp] theorem le_LINE18 : (18 : Nat) ≤ LINE := by decide
@[simp] theorem lt_LINE18 : (18 : Nat) < LINE := by decide
@[simp] theorem le_LINE19 : (19 : Nat) ≤ LINE := by decide
@[simp] theorem lt_LINE19 : (19 : Nat) < LINE := by decide
@[simp] theorem le_LINE20 : (20 : Nat) ≤ LINE := by decide
@[simp] theorem lt_LINE20 : (20 : Nat) < LINE := by decide
@[simp] theorem le_LINE21 : (21 : Nat) ≤ LINE := by decide
@[simp] theorem lt_LINE21 : (21 : Nat) < LINE := by decide
@[simp] theorem le_LINE22 : (22 : Nat) ≤ LINE := by decide
@[simp] theorem lt_LINE22 : (22 : Nat) < LINE := by decide
@[simp] theorem le_LINE23 : (23 : Nat) ≤ LINE := by decide
@[simp] theorem lt_LINE23 : (23 : Nat) < LINE := by decide
@[simp] theorem le_LINE24 : (24 : Nat) ≤ LINE := by decide
@[simp] theorem lt_LINE24 : (24 : Nat) < LINE := by decide
@[simp] theorem le_LINE25 : (25 : Nat) ≤ LINE := by decide
@[simp] theorem lt_LINE25 : (25 : Nat) < LINE := by decide
@[simp] theorem le_LINE26 : (26 : Nat) ≤ LINE := by decide
@[simp] theorem lt_LINE26 : (26 : Nat) < LINE := by decide
@[simp] theorem le_LINE27 : (27 : Nat) ≤ LINE := by decide
@[simp] theorem lt_LINE27 : (27 : Nat) < LINE := by decide
@[simp] theorem le_LINE28 : (28 : Nat) ≤ LINE := by decide
@[simp] theorem lt_LINE28 : (28 : Nat) < LINE := by decide
@[simp] theorem le_LINE29 : (29 : Nat) ≤ LINE := by decide
@[simp] theorem lt_LINE29 : (29 : Nat) < LINE := by decide
@[simp] theorem le_LINE30 : (30 : Nat) ≤ LINE := by decide
@[simp] theorem lt_LINE30 : (30 : Nat) < LINE := by decide
@[simp] theorem le_LINE31 : (31 : Nat) ≤ LINE := by decide
@[simp] theorem lt_LINE31 : (31 : Nat) < LINE := by decide
@[simp] theorem le_LINE32 : (32 : Nat) ≤ LINE := by decide
@[simp] theorem lt_LINE32 : (32 : Nat) < LINE := by decide
@[simp] theorem le_LINE33 : (33 : Nat) ≤ LINE := by decide
@[simp] theorem lt_LINE33 : (33 : Nat) < LINE := by decide
@[simp] theorem le_LINE34 : (34 : Nat) ≤ LINE := by decide
@[simp] theorem lt_LINE34 : (34 : Nat) < LINE := by decide
@[simp] theorem le_LINE35 : (35 : Nat) ≤ LINE := by decide
@[simp] theorem lt_LINE35 : (35 : Nat) < LINE := by decide
@[simp] theorem le_LINE36 : (36 : Nat) ≤ LINE := by decide
@[simp] theorem lt_LINE36 : (36 : Nat) < LINE := by decide
@[simp] theorem le_LINE37 : (37 : Nat) ≤ LINE := by decide
@[simp] theorem lt_LINE37 : (37 : Nat) < LINE := by decide
@[simp] theorem le_LINE38 : (38 : Nat) ≤ LINE := by decide
@[simp] theorem lt_LINE38 : (38 : Nat) < LINE := by decide
@[simp] theorem le_LINE39 : (39 : Nat) ≤ LINE := by decide
@[simp] theorem lt_LINE39 : (39 : Nat) < LINE := by decide
@[simp] theorem le_LINE40 : (40 : Nat) ≤ LINE := by decide
@[simp] theorem lt_LINE40 : (40 : Nat) < LINE := by decide
@[simp] theorem le_LINE41 : (41 : Nat) ≤ LINE := by decide
@[simp] theorem lt_LINE41 : (41 : Nat) < LINE := by decide
@[simp] theorem le_LINE42 : (42 : Nat) ≤ LINE := by decide
@[simp] theorem lt_LINE42 : (42 : Nat) < LINE := by decide
@[simp] theorem le_LINE43 : (43 : Nat) ≤ LINE := by decide
@[simp] theorem lt_LINE43 : (43 : Nat) < LINE := by decide
@[simp] theorem le_LINE44 : (44 : Nat) ≤ LINE := by decide
@[simp] theorem lt_LINE44 : (44 : Nat) < LINE := by decide
@[simp] theorem le_LINE45 : (45 : Nat) ≤ LINE := by decide
@[simp] theorem lt_LINE45 : (45 : Nat) < LINE := by decide
@[simp] theorem le_LINE46 : (46 : Nat) ≤ LINE := by decide
@[simp] theorem lt_LINE46 : (46 : Nat) < LINE := by decide
@[simp] theorem le_LINE47 : (47 : Nat) ≤ LINE := by decide
@[simp] theorem lt_LINE47 : (47 : Nat) < LINE := by decide
@[simp] theorem le_LINE48 : (48 : Nat) ≤ LINE := by decide
@[simp] theorem lt_LINE48 : (48 : Nat) < LINE := by decide
@[simp] theorem le_LINE49 : (49 : Nat) ≤ LINE := by decide
@[simp] theorem lt_LINE49 : (49 : Nat) < LINE := by decide
@[simp] theorem le_LINE50 : (50 : Nat) ≤ LINE := by decide
@[simp] theorem lt_LINE50 : (50 : Nat) < LINE := by decide
@[simp] theorem le_LINE51 : (51 : Nat) ≤ LINE := by decide
@[simp] theorem lt_LINE51 : (51 : Nat) < LINE := by decide
@[simp] theorem le_LINE52 : (52 : Nat) ≤ LINE := by decide
@[simp] theorem lt_LINE52 : (52 : Nat) < LINE := by decide
@[simp] theorem le_LINE53 : (53 : Nat) ≤ LINE := by decide
@[simp] theorem lt_LINE53 : (53 : Nat) < LINE := by decide
@[simp] theorem le_LINE54 : (54 : Nat) ≤ LINE := by decide
@[simp] theorem lt_LINE54 : (54 : Nat) < LINE := by decide
@[simp] theorem le_LINE55 : (55 : Nat) ≤ LINE := by decide
@[simp] theorem lt_LINE55 : (55 : Nat) < LINE := by decide
@[simp] theorem le_LINE56 : (56 : Nat) ≤ LINE := by decide
@[simp] theorem lt_LINE56 : (56 : Nat) < LINE := by decide
@[simp] theorem le_LINE57 : (57 : Nat) ≤ LINE := by decide
@[simp] theorem lt_LINE57 : (57 : Nat) < LINE := by decide
@[simp] theorem le_LINE58 : (58 : Nat) ≤ LINE := by decide
@[simp] theorem lt_LINE58 : (58 : Nat) < LINE := by decide
@[simp] theorem le_LINE59 : (59 : Nat) ≤ LINE := by decide
@[simp] theorem lt_LINE59 : (59 : Nat) < LINE := by decide
@[simp] theorem le_LINE60 : (60 : Nat) ≤ LINE := by decide
@[simp] theorem lt_LINE60 : (60 : Nat) < LINE := by decide
@[simp] theorem le_LINE61 : (61 : Nat) ≤ LINE := by decide
@[simp] theorem lt_LINE61 : (61 : Nat) < LINE := by decide
@[simp] theorem le_LINE62 : (62 : Nat) ≤ LINE := by decide
@[simp] theorem lt_LINE62 : (62 : Nat) < LINE := by decide
@[simp] theorem le_LINE63 : (63 : Nat) ≤ LINE := by decide
@[simp] theorem lt_LINE63 : (63 : Nat) < LINE := by decide
@[simp] theorem le_LINE64 : (64 : Nat) ≤ LINE := by decide
@[simp] theorem lt_LINE64 : (64 : Nat) < LINE := by decide
/-! operators on ints -/
@[simp] theorem bop_add : bop .add m (.int i) (.int j) st = .ok (.int (i + j)) st := rfl
@[simp] theorem bop_sub : bop .sub m (.int i) (.int j) st = .ok (.int (i - j)) st := rfl
theorem W_if {c : Prop} [Decidable c] {d : D} : W (Res.of ((if c then some i else none : Option Int).map D.int) st) Q ↔ c ∧ Q (.int i) st := by
  by_cases h : c <;> simp [h]
@[simp] theorem W_mul : W (bop .mul m (.int i) (.int j) st) Q ↔ ((-(2 ^ 64) < i ∧ i < 2 ^ 64) ∨ (-(2 ^ 64) < j ∧ j < 2 ^ 64)) ∧ Q (.int (i * j)) st := W_if (d := .non)
@[simp] theorem W_div : W (bop .div m (.int i) (.int j) st) Q ↔ (0 < j ∧ j < 1073741824) ∧ Q (.int (i / j)) st := W_if (d := .non)
@[simp] theorem W_mod : W (bop .mod m (.int i) (.int j) st) Q ↔ 0 < j ∧ Q (.int (i % j)) st := W_if (d := .non)
@[simp] theorem W_pow : W (bop .pow m (.int i) (.int j) st) Q ↔ (0 ≤ j ∧ j ≤ 1000000 ∧ i.natAbs < 2 ^ 64) ∧ Q (.int (i ^ j.toNat)) st := W_if (d := .non)
@[simp] theorem W_adds : W (bop .add m (.str s) (.str t) st) Q ↔ s.length + t.length ≤ LINE ∧ Q (.str (s ++ t)) st := by
  exact W_guard
@[simp] theorem W_addt : W (bop .add m (.tup xs) (.tup ys) st) Q ↔ xs.length + ys.length ≤ LINE ∧ Q (.tup (xs ++ ys)) st := by
  exact W_guard
@[simp] theorem W_mult : W (bop .mul m (.tup xs) (.int i) st) Q ↔ (xs ≠ [] ∧ -(2 ^ 63) ≤ i ∧ i ≤ 1000 ∧ xs.length ≤ 1000) ∧ Q (.tup (List.replicate i.toNat xs).flatten) st := by
  exact W_guard
@[simp] theorem W_muls : W (bop .mul m (.str s) (.int i) st) Q ↔ (-(2 ^ 63) ≤ i ∧ i ≤ 1000 ∧ s.length ≤ 1000) ∧ Q (.str (String.ofList (List.replicate i.toNat s.toList).flatten)) st := by
  exact W_guard
theorem W_addl {a b : D} (ha : lstOf st a = some xs) (hb : lstOf st b = some ys) : W (bop .add m a b st) Q ↔ xs.length + ys.length ≤ LINE ∧ W (newL m (xs ++ ys) st) Q := by
  have : bop .add m a b st = if xs.length + ys.length ≤ LINE then newL m (xs ++ ys) st else .no := by
    cases a <;> first | (cases ha; done) | skip
    all_goals (cases b <;> first | (cases hb; done) | skip)
    all_goals simp only [bop, ha, hb]
  rw [this, W_guard]
@[simp] theorem W_addll : W (bop .add m (.lst xs) (.lst ys) st) Q ↔ xs.length + ys.length ≤ LINE ∧ W (newL m (xs ++ ys) st) Q := W_addl rfl rfl
/-! comparisons -/
@[simp] theorem cmp_lt : cmpV .lt (.int i) (.int j) st = some (decide (i < j)) := rfl
@[simp] theorem cmp_le : cmpV .le (.int i) (.int j) st = some (decide (i ≤ j)) := rfl
@[simp] theorem cmp_gt : cmpV .gt (.int i) (.int j) st = some (decide (j < i)) := rfl
@[simp] theorem cmp_ge : cmpV .ge (.int i) (.int j) st = some (decide (j ≤ i)) := rfl
@[simp] theorem cmp_eqi : cmpV .eq (.int i) (.int j) st = some (i == j) := by simp [cmpV, eqB, flat1, okEq, scal, cmpb, D.eq]
@[simp] theorem cmp_nei : cmpV .ne (.int i) (.int j) st = some (!(i == j)) := by simp [cmpV, eqB, flat1, okEq, scal, cmpb, D.eq]
@[simp] theorem cmp_eqs : cmpV .eq (.str s) (.str t) st = some (s == t) := by simp [cmpV, eqB, flat1, okEq, scal, cmpb, D.eq]
@[simp] theorem cmp_nes : cmpV .ne (.str s) (.str t) st = some (!(s == t)) := by simp [cmpV, eqB, flat1, okEq, scal, cmpb, D.eq]
@[simp] theorem cmp_eqb {a b : Bool} : cmpV .eq (.bl a) (.bl b) st = some (a == b) := by simp [cmpV, eqB, flat1, okEq, scal, cmpb, D.eq]
@[simp] theorem cmp_neb {a b : Bool} : cmpV .ne (.bl a) (.bl b) st = some (!(a == b)) := by simp [cmpV, eqB, flat1, okEq, scal, cmpb, D.eq]
@[simp] theorem cmp_isb {a b : Bool} : cmpV .is (.bl a) (.bl b) st = some (a == b) := by simp [cmpV, isB]
theorem eq_ss {s t : String} : D.eq (.str s) (.str t) = (s == t) := rfl
theorem eq_ii {i j : Int} : D.eq (.int i) (.int j) = (i == j) := rfl
theorem inB_tup {x : D} (h : (scal x && xs.all scal) = true) : cmpV .isin x (.tup xs) st = some (isIn x xs) := by
  show inB x (.tup xs) st = _
  have : inB x (.tup xs) st = if (scal x && xs.all scal) = true then some (isIn x xs) else (match dctOf st (.tup xs), kyOf x with
      | some (ks, vs), some k => some (lookK ks vs k).isSome
      | _, _ => none) := by
    simp only [inB, seqOf]
    split <;> simp_all [dctOf]
  rw [this, if_pos h]
theorem notin_of {a b : D} {k : Bool} (h : cmpV .isin a b st = some k) : cmpV .notin a b st = some (!k) := by
  simp only [cmpV] at h ⊢
  rw [h]; rfl
@[simp] theorem in_s1 {s a0 : String} : cmpV .isin (.str s) (.tup [.str a0]) st = some (a0 == s) := by
  rw [inB_tup (by simp [scal])]
  simp [isIn, eq_ss]
@[simp] theorem notin_s1 {s a0 : String} : cmpV .notin (.str s) (.tup [.str a0]) st = some (!(a0 == s)) := notin_of in_s1
@[simp] theorem in_s2 {s a0 a1 : String} : cmpV .isin (.str s) (.tup [.str a0, .str a1]) st = some ((a0 == s || a1 == s)) := by
  rw [inB_tup (by simp [scal])]
  simp [isIn, eq_ss]
@[simp] theorem notin_s2 {s a0 a1 : String} : cmpV .notin (.str s) (.tup [.str a0, .str a1]) st = some (!((a0 == s || a1 == s))) := notin_of in_s2
@[simp] theorem in_s3 {s a0 a1 a2 : String} : cmpV .isin (.str s) (.tup [.str a0, .str a1, .str a2]) st = some ((a0 == s || (a1 == s || a2 == s))) := by
  rw [inB_tup (by simp [scal])]
  simp [isIn, eq_ss]
@[simp] theorem notin_s3 {s a0 a1 a2 : String} : cmpV .notin (.str s) (.tup [.str a0, .str a1, .str a2]) st = some (!((a0 == s || (a1 == s || a2 == s)))) := notin_of in_s3
@[simp] theorem in_s4 {s a0 a1 a2 a3 : String} : cmpV .isin (.str s) (.tup [.str a0, .str a1, .str a2, .str a3]) st = some ((a0 == s || (a1 == s || (a2 == s || a3 == s)))) := by
  rw [inB_tup (by simp [scal])]
  simp [isIn, eq_ss]
@[simp] theorem notin_s4 {s a0 a1 a2 a3 : String} : cmpV .notin (.str s) (.tup [.str a0, .str a1, .str a2, .str a3]) st = some (!((a0 == s || (a1 == s || (a2 == s || a3 == s))))) := notin_of in_s4
@[simp] theorem in_s5 {s a0 a1 a2 a3 a4 : String} : cmpV .isin (.str s) (.tup [.str a0, .str a1, .str a2, .str a3, .str a4]) st = some ((a0 == s || (a1 == s || (a2 == s || (a3 == s || a4 == s))))) := by
  rw [inB_tup (by simp [scal])]
  simp [isIn, eq_ss]
@[simp] theorem notin_s5 {s a0 a1 a2 a3 a4 : String} : cmpV .notin (.str s) (.tup [.str a0, .str a1, .str a2, .str a3, .str a4]) st = some (!((a0 == s || (a1 == s || (a2 == s || (a3 == s || a4 == s)))))) := notin_of in_s5
@[simp] theorem in_s6 {s a0 a1 a2 a3 a4 a5 : String} : cmpV .isin (.str s) (.tup [.str a0, .str a1, .str a2, .str a3, .str a4, .str a5]) st = some ((a0 == s || (a1 == s || (a2 == s || (a3 == s || (a4 == s || a5 == s)))))) := by
  rw [inB_tup (by simp [scal])]
  simp [isIn, eq_ss]
@[simp] theorem notin_s6 {s a0 a1 a2 a3 a4 a5 : String} : cmpV .notin (.str s) (.tup [.str a0, .str a1, .str a2, .str a3, .str a4, .str a5]) st = some (!((a0 == s || (a1 == s || (a2 == s || (a3 == s || (a4 == s || a5 == s))))))) := notin_of in_s6
@[simp] theorem in_s7 {s a0 a1 a2 a3 a4 a5 a6 : String} : cmpV .isin (.str s) (.tup [.str a0, .str a1, .str a2, .str a3, .str a4, .str a5, .str a6]) st = some ((a0 == s || (a1 == s || (a2 == s || (a3 == s || (a4 == s || (a5 == s || a6 == s))))))) := by
  rw [inB_tup (by simp [scal])]
  simp [isIn, eq_ss]
@[simp] theorem notin_s7 {s a0 a1 a2 a3 a4 a5 a6 : String} : cmpV .notin (.str s) (.tup [.str a0, .str a1, .str a2, .str a3, .str a4, .str a5, .str a6]) st = some (!((a0 == s || (a1 == s || (a2 == s || (a3 == s || (a4 == s || (a5 == s || a6 == s)))))))) := notin_of in_s7
@[simp] theorem in_s8 {s a0 a1 a2 a3 a4 a5 a6 a7 : String} : cmpV .isin (.str s) (.tup [.str a0, .str a1, .str a2, .str a3, .str a4, .str a5, .str a6, .str a7]) st = some ((a0 == s || (a1 == s || (a2 == s || (a3 == s || (a4 == s || (a5 == s || (a6 == s || a7 == s)))))))) := by
  rw [inB_tup (by simp [scal])]
  simp [isIn, eq_ss]
@[simp] theorem notin_s8 {s a0 a1 a2 a3 a4 a5 a6 a7 : String} : cmpV .notin (.str s) (.tup [.str a0, .str a1, .str a2, .str a3, .str a4, .str a5, .str a6, .str a7]) st = some (!((a0 == s || (a1 == s || (a2 == s || (a3 == s || (a4 == s || (a5 == s || (a6 == s || a7 == s))))))))) := notin_of in_s8
/-! items -/
@[simp] theorem ix_tup : ixV (.tup xs) (.int i) st = atI xs i := rfl
@[simp] theorem ix_lst : ixV (.lst xs) (.int i) st = atI xs i := rfl
@[simp] theorem ix_ro : ixV (.ro xs) (.int i) st = atI xs i := rfl
theorem ix_loc (h : st[n]? = some (.lst xs)) : ixV (.loc n) (.int i) st = atI xs i := by simp [ixV, seqOf, h]
theorem atI_nat {α : Type} {xs : List α} {k : Nat} (h : k < xs.length) : atI xs (k : Int) = some xs[k] := by
  have : ((k : Nat) : Int) < (xs.length : Int) := by omega
  simp [atI, ixN, this, h]
theorem atI_of {α : Type} {xs : List α} {i : Int} (h0 : 0 ≤ i) (h : i < xs.length) : ∃ x, atI xs i = some x ∧ x ∈ xs := by
  obtain ⟨k, rfl⟩ := Int.eq_ofNat_of_zero_le h0
  have hk : k < xs.length := by simpa using h
  exact ⟨xs[k], atI_nat hk, List.getElem_mem hk⟩
@[simp] theorem atI_0 {α : Type} {a : α} {r : List α} : atI (a :: r) 0 = some a := by
  have := atI_nat (xs := a :: r) (k := 0) (by simp)
  simpa using this
@[simp] theorem atI_1 {α : Type} {a b : α} {r : List α} : atI (a :: b :: r) 1 = some b := by
  have := atI_nat (xs := a :: b :: r) (k := 1) (by simp)
  simpa using this
@[simp] theorem atI_2 {α : Type} {a b c : α} {r : List α} : atI (a :: b :: c :: r) 2 = some c := by
  have := atI_nat (xs := a :: b :: c :: r) (k := 2) (by simp)
  simpa using this
@[simp] theorem atI_3 {α : Type} {a b c d : α} {r : List α} : atI (a :: b :: c :: d :: r) 3 = some d := by
  have := atI_nat (xs := a :: b :: c :: d :: r) (k := 3) (by simp)
  simpa using this
/-! built-ins -/
@[simp] theorem len_tup : biV .len m [.tup xs] st = .ok (.int xs.length) st := rfl
@[simp] theorem len_lst : biV .len m [.lst xs] st = .ok (.int xs.length) st := rfl
@[simp] theorem len_ro : biV .len m [.ro xs] st = .ok (.int xs.length) st := rfl
theorem len_loc (h : st[n]? = some (.lst xs)) : biV .len m [.loc n] st = .ok (.int xs.length) st := by simp [biV, seqOf, h]
@[simp] theorem W_lens : W (biV .len m [.str s] st) Q ↔ s.length ≤ LINE ∧ Q (.int s.length) st := by
  exact W_guard
@[simp] theorem max_int : biV .max m [.int i, .int j] st = .ok (.int (if j > i then j else i)) st := rfl
@[simp] theorem min_int : biV .min m [.int i, .int j] st = .ok (.int (if j < i then j else i)) st := rfl
@[simp] theorem tup_lst : biV .tuple m [.lst xs] st = .ok (.tup xs) st := rfl
@[simp] theorem tup_tup : biV .tuple m [.tup xs] st = .ok (.tup xs) st := rfl
theorem tup_loc (h : st[n]? = some (.lst xs)) : biV .tuple m [.loc n] st = .ok (.tup xs) st := by simp [biV, lroOf, h]
@[simp] theorem lst_tup : biV .list m [.tup xs] st = newL m xs st := rfl
@[simp] theorem lst_lst : biV .list m [.lst xs] st = newL m xs st := rfl
theorem lst_loc (h : st[n]? = some (.lst xs)) : biV .list m [.loc n] st = newL m xs st := by simp [biV, seqOf, h]
/-! slots -/
@[simp] theorem bind_nm {k : Nat} {d : D} : bindT (.nm k) d ρ = some (ρ.set k (some d)) := rfl
/-! calls -/
theorem callP_succ {P : List Fn} {k f : Nat} {fn : Fn} {ds : List D} (h : P[f]? = some fn) : callP P (k + 1) f ds st = runB (callP P k) fn ds st := by
  show (match P[f]? with | some fn => runB (callP P k) fn ds st | none => .no) = _
  rw [h]
theorem runB_eq {f : Fn} {ds : List D} (h : ds.length = f.np) : runB C f ds st = (evSs C f.body (startD f.nn ds) st).bind fun r st => match r with
    | .nx _ => .ok .non st
    | .rt d => .ok d st := by
  unfold runB
  rw [if_pos h]
  all_goals congr 1
end
/-! ### loops -/
theorem W_for {g : Store → Bool} {f : D → Slots → Store → Res Fl} {Q : Fl → Store → Prop} (I : List D → Slots → Store → Prop) (hg : ∀ r ρ st, I r ρ st → g st = true)
    (step : ∀ x r ρ st, I (x :: r) ρ st → W (f x ρ st) fun o st => match o with
      | .nx ρ => I r ρ st
      | .rt v => Q (.rt v) st) (hend : ∀ ρ st, I [] ρ st → Q (.nx ρ) st) : ∀ (xs : List D) (ρ : Slots) (st : Store), I xs ρ st → W (forL g f xs ρ st) Q
  | [], ρ, st, h => by
    unfold forL
    rw [if_pos (hg _ _ _ h)]
    exact hend _ _ h
  | x :: r, ρ, st, h => by
    unfold forL
    rw [if_pos (hg _ _ _ h), W_bind]
    refine (step x r ρ st h).mono fun o st h => ?_
    cases o with
    | nx ρ => exact W_for I hg step hend r ρ st h
    | rt v => exact h
theorem W_lc {g : Store → Bool} {f : D → Store → Res (Option D)} {Q : List D → Store → Prop} (I : List D → List D → Store → Prop) (hg : ∀ r acc st, I r acc st → g st = true)
    (step : ∀ x r acc st, I (x :: r) acc st → W (f x st) fun o st => match o with
      | none => I r acc st
      | some y => acc.length < LINE ∧ I r (acc ++ [y]) st) (hend : ∀ acc st, I [] acc st → Q acc st) : ∀ (xs acc : List D) (st : Store), I xs acc st → W (lcL g f xs acc st) Q
  | [], acc, st, h => by
    unfold lcL
    rw [if_pos (hg _ _ _ h)]
    exact hend _ _ h
  | x :: r, acc, st, h => by
    unfold lcL
    rw [if_pos (hg _ _ _ h), W_bind]
    refine (step x r acc st h).mono fun o st h => ?_
    cases o with
    | none => exact W_lc I hg step hend r acc st h
    | some y => simp only; rw [if_pos h.1]; exact W_lc I hg step hend r _ st h.2
/-- a comprehension over the images of as, R stands -/
theorem W_mapR {α : Type} {g : Store → Bool} {f : D → Store → Res (Option D)} {st : Store} {Q : List D → Store → Prop} (R : Store → Prop) (t u : α → D) {as : List α} (h0 : R st) (hg : ∀ s, R s → g s = true) (hl : as.length ≤ LINE)
    (h : ∀ a ∈ as, ∀ s, R s → W (f (t a) s) fun o s' => R s' ∧ o = some (u a)) (hq : ∀ s, R s → Q (as.map u) s) : W (lcL g f (as.map t) [] st) Q := by
  refine W_lc (fun r acc s => R s ∧ ∃ ds ts, as = ds ++ ts ∧ r = ts.map t ∧ acc = ds.map u) (fun r acc s h => hg s h.1) ?_ ?_ _ _ _ ⟨h0, [], as, rfl, rfl, rfl⟩
  · rintro x r acc s ⟨hs, ds, ts, rfl, hr, rfl⟩
    cases ts with
    | nil => cases hr
    | cons a ts =>
      rw [List.map_cons] at hr
      cases hr
      refine (h a (by simp) s hs).mono ?_
      rintro _ s' ⟨hs', rfl⟩
      simp only [List.length_append, List.length_cons] at hl
      exact ⟨by rw [List.length_map]; omega, hs', ds ++ [a], ts, by simp, rfl, by simp⟩
  · rintro acc s ⟨hs, ds, ts, rfl, hr, rfl⟩
    cases ts with
    | nil => rw [List.append_nil] at hq; exact hq s hs
    | cons a ts => cases hr
/-- a for over the images of as -/
theorem W_forA {α : Type} {g : Store → Bool} {f : D → Slots → Store → Res Fl} {st : Store} {ρ : Slots} {Q : Fl → Store → Prop} (I : List α → Slots → Store → Prop) (t : α → D) {as : List α} (h0 : I [] ρ st) (hg : ∀ ds ρ s, I ds ρ s → g s = true)
    (h : ∀ ds a ts, as = ds ++ a :: ts → ∀ ρ s, I ds ρ s → W (f (t a) ρ s) fun o s' => match o with
      | .nx ρ => I (ds ++ [a]) ρ s'
      | .rt v => Q (.rt v) s') (hq : ∀ ρ s, I as ρ s → Q (.nx ρ) s) : W (forL g f (as.map t) ρ st) Q := by
  refine W_for (fun r ρ s => ∃ ds ts, as = ds ++ ts ∧ r = ts.map t ∧ I ds ρ s) (fun r ρ s ⟨ds, ts, _, _, h⟩ => hg ds ρ s h) ?_ ?_ _ _ _ ⟨[], as, rfl, rfl, h0⟩
  · rintro x r ρ s ⟨ds, ts, hd, hr, hi⟩
    cases ts with
    | nil => cases hr
    | cons a ts =>
      rw [List.map_cons] at hr
      cases hr
      refine (h ds a ts hd ρ s hi).mono ?_
      intro o s' ho
      cases o with
      | nx ρ => exact ⟨ds ++ [a], ts, by rw [hd]; simp, rfl, ho⟩
      | rt v => exact ho
  · rintro ρ s ⟨ds, ts, hd, hr, hi⟩
    cases ts with
    | nil => rw [List.append_nil] at hd; exact hq ρ s (hd ▸ hi)
    | cons a ts => cases hr
@[simp] theorem guard_nil {xs : List D} {st : Store} : guard ⟨xs, []⟩ st = true := rfl
end Rx

set_option Elab.async false
set_option linter.all false
set_option maxRecDepth 10000
set_option maxHeartbeats 400000
set_option autoImplicit false
namespace Rx
/-! from M1 -/
theorem atI_ints {ns : List Int} {j : Int} (h0 : 0 ≤ j) (h : j < ns.length) : ∃ i, atI (ns.map D.int) j = some (.int i) := by
  obtain ⟨x, h1, h2⟩ := atI_of (xs := ns.map D.int) h0 (by simpa using h)
  obtain ⟨i, _, rfl⟩ := List.mem_map.mp h2
  exact ⟨i, h1⟩
/-- a cell of the kind B at n -/
def Box (B : Cell → Prop) (n : Nat) (st : Store) : Prop := ∃ c, st[n]? = some c ∧ B c
/-- the box at n may be another, all else that was there is as it was -/
structure Chg (B : Cell → Prop) (n : Nat) (st st' : Store) : Prop where
  box : Box B n st'
  len : st.length ≤ st'.length
  old : ∀ i, i ≠ n → i < st.length → st'[i]? = st[i]?
section
variable {B : Cell → Prop}
theorem Chg.refl {n : Nat} {st : Store} (h : Box B n st) : Chg B n st st := ⟨h, Nat.le_refl _, fun _ _ _ => rfl⟩
theorem Chg.trans {n : Nat} {st s1 s2 : Store} (a : Chg B n st s1) (b : Chg B n s1 s2) : Chg B n st s2 :=
  ⟨b.box, Nat.le_trans a.len b.len, fun i h1 h2 => (b.old i h1 (Nat.lt_of_lt_of_le h2 a.len)).trans (a.old i h1 h2)⟩
theorem Box.lt {n : Nat} {st : Store} (h : Box B n st) : n < st.length := by
  obtain ⟨_, h, _⟩ := h
  exact (List.getElem?_eq_some_iff.mp h).1
theorem Chg.set {n : Nat} {st : Store} {c : Cell} (h : Box B n st) (hc : B c) : Chg B n st (st.set n c) :=
  ⟨⟨c, by simp [h.lt], hc⟩, by simp, fun i h1 _ => List.getElem?_set_ne (Ne.symm h1)⟩
theorem Chg.app {n : Nat} {st s : Store} {c : Cell} (h : Chg B n st s) : Chg B n st (s ++ [c]) := by
  obtain ⟨⟨d, e, hd⟩, h2, h3⟩ := h
  refine ⟨⟨d, ?_, hd⟩, by simp; omega, fun i h1 h4 => ?_⟩
  · rw [List.getElem?_append_left (List.getElem?_eq_some_iff.mp e).1]; exact e
  · rw [List.getElem?_append_left (by omega)]; exact h3 i h1 h4
theorem Chg.set' {n m : Nat} {st s : Store} {c : Cell} (h : Chg B n st s) (h1 : m ≠ n) (h2 : st.length ≤ m) : Chg B n st (s.set m c) := by
  obtain ⟨⟨d, e, hd⟩, g2, g3⟩ := h
  refine ⟨⟨d, ?_, hd⟩, by simpa using g2, fun i h3 h4 => ?_⟩
  · rw [List.getElem?_set_ne h1]; exact e
  · rw [List.getElem?_set_ne (by omega)]; exact g3 i h3 h4
theorem Chg.at {n m : Nat} {st s : Store} {c : Cell} (h : Chg B n st s) (h1 : m ≠ n) (h2 : st[m]? = some c) : s[m]? = some c := by
  rw [h.old m h1 (List.getElem?_eq_some_iff.mp h2).1]; exact h2
end
theorem me_join {m : Bool} {xs : List D} {st : Store} {l : List String} {s : String} {Q : D → Store → Prop} (h : strsD xs = some l) : W (meV .join m (.str s) [.lst xs] st) Q ↔ joinLen s.length l ≤ LINE ∧ Q (.str (joinS s l)) st := by
  show W (match (seqOf st (.lst xs)).bind strsD with
    | some xs => if joinLen s.length xs ≤ LINE then .ok (.str (joinS s xs)) st else .no
    | none => .no) Q ↔ _
  have : (seqOf st (.lst xs)).bind strsD = some l := h
  rw [this]
  exact W_guard
theorem rng_len (i j : Int) : (rng i j).length = (j - i).toNat := by simp [rng]
theorem ix_str {s : String} {i : Int} {st : Store} {c : Char} (h : atI s.toList i = some c) (hl : s.length ≤ LINE) : ixV (.str s) (.int i) st = some (.str (String.ofList [c])) := by
  simp [ixV, h, hl]
theorem strs_of : ∀ {xs : List D} {p : String → Prop}, (∀ x ∈ xs, ∃ s, x = .str s ∧ p s) → ∃ l, strsD xs = some l ∧ xs = l.map D.str ∧ ∀ s ∈ l, p s
  | [], p, h => ⟨[], rfl, rfl, fun s hs => by simp at hs⟩
  | x :: xs, p, h => by
    obtain ⟨s, rfl, hs⟩ := h x List.mem_cons_self
    obtain ⟨l, h1, h2, h3⟩ := strs_of fun y hy => h y (List.mem_cons_of_mem _ hy)
    refine ⟨s :: l, by simp [strsD, h1], by rw [h2]; rfl, fun t ht => ?_⟩
    rcases List.mem_cons.mp ht with z | z
    · exact z ▸ hs
    · exact h3 t z
theorem joinE : ∀ l : List String, (joinS "" l).toList = (l.map String.toList).flatten
  | [] => rfl
  | [x] => by simp [joinS]
  | x :: y :: r => by
    have := joinE (y :: r)
    simp only [joinS, String.toList_append, this]
    simp

/-! from M2 -/
/-- a comprehension that keeps some items, nothing else changes -/
theorem W_filter {g : Store → Bool} {f : D → Store → Res (Option D)} {st : Store} {Q : List D → Store → Prop} (p : D → Bool) {xs : List D} (hg : g st = true) (hl : xs.length ≤ LINE)
    (h : ∀ x ∈ xs, W (f x st) fun o st' => st' = st ∧ o = if p x then some x else none) (hq : Q (xs.filter p) st) : W (lcL g f xs [] st) Q := by
  refine W_lc (fun r acc s => s = st ∧ acc.length + r.length ≤ LINE ∧ (∀ x ∈ r, x ∈ xs) ∧ acc ++ r.filter p = xs.filter p) (fun r acc s ⟨e, _⟩ => by rw [e]; exact hg) ?_ ?_ _ _ _ ⟨rfl, by simpa using hl, fun _ h => h, rfl⟩
  · rintro x r acc s ⟨rfl, h1, h2, h3⟩
    refine (h x (h2 x List.mem_cons_self)).mono ?_
    rintro o s' ⟨rfl, rfl⟩
    simp only [List.length_cons] at h1
    by_cases hp : p x = true
    · simp only [hp, if_true]
      refine ⟨by omega, trivial, by simp; omega, fun y hy => h2 y (List.mem_cons_of_mem _ hy), ?_⟩
      rw [← h3]; simp [hp]
    · simp only [hp, if_false]
      refine ⟨trivial, by omega, fun y hy => h2 y (List.mem_cons_of_mem _ hy), ?_⟩
      rw [← h3]; simp [hp]
  · rintro acc s ⟨rfl, _, _, h3⟩
    simp at h3
    exact h3 ▸ hq
theorem W_map {g : Store → Bool} {f : D → Store → Res (Option D)} {st : Store} {Q : List D → Store → Prop} (p : D → D) {xs : List D} (hg : g st = true) (hl : xs.length ≤ LINE)
    (h : ∀ x ∈ xs, W (f x st) fun o st' => st' = st ∧ o = some (p x)) (hq : Q (xs.map p) st) : W (lcL g f xs [] st) Q := by
  refine W_lc (fun r acc s => s = st ∧ acc.length + r.length ≤ LINE ∧ (∀ x ∈ r, x ∈ xs) ∧ acc ++ r.map p = xs.map p) (fun r acc s ⟨e, _⟩ => by rw [e]; exact hg) ?_ ?_ _ _ _ ⟨rfl, by simpa using hl, fun _ h => h, rfl⟩
  · rintro x r acc s ⟨rfl, h1, h2, h3⟩
    refine (h x (h2 x List.mem_cons_self)).mono ?_
    rintro o s' ⟨rfl, rfl⟩
    simp only [List.length_cons] at h1
    refine ⟨by omega, rfl, by simp; omega, fun y hy => h2 y (List.mem_cons_of_mem _ hy), ?_⟩
    rw [← h3]; simp
  · rintro acc s ⟨rfl, _, _, h3⟩
    simp at h3
    exact h3 ▸ hq
/-- a loop that leaves with v at the first item that p doesn't like, nothing else changes -/
theorem W_all {g : Store → Bool} {f : D → Slots → Store → Res Fl} {st : Store} {Q : Fl → Store → Prop} (p : D → Bool) (R : Slots → Prop) {v : D} {xs : List D} {ρ : Slots} (hg : g st = true) (h0 : R ρ)
    (h : ∀ x ∈ xs, ∀ ρ, R ρ → W (f x ρ st) fun o st' => st' = st ∧ if p x = true then ∃ ρ', o = .nx ρ' ∧ R ρ' else o = .rt v) (h1 : xs.all p = false → Q (.rt v) st) (h2 : xs.all p = true → ∀ ρ, R ρ → Q (.nx ρ) st) : W (forL g f xs ρ st) Q := by
  refine W_for (fun r ρ s => s = st ∧ (∀ x ∈ r, x ∈ xs) ∧ R ρ ∧ (r.all p = xs.all p)) (fun r ρ s ⟨e, _⟩ => by rw [e]; exact hg) ?_ ?_ _ _ _ ⟨rfl, fun _ h => h, h0, rfl⟩
  · rintro x r ρ s ⟨rfl, k1, k2, k3⟩
    refine (h x (k1 x List.mem_cons_self) ρ k2).mono ?_
    rintro o s' ⟨rfl, ho⟩
    by_cases hp : p x = true
    · rw [if_pos hp] at ho
      obtain ⟨ρ', rfl, hr⟩ := ho
      exact ⟨rfl, fun y hy => k1 y (List.mem_cons_of_mem _ hy), hr, by rw [← k3]; simp [hp]⟩
    · rw [if_neg hp] at ho
      subst ho
      exact h1 (by rw [← k3]; simp [hp])
  · rintro ρ s ⟨rfl, _, k2, k3⟩
    exact h2 (by rw [← k3]; rfl) ρ k2
theorem cutAt_none {c : Char} : ∀ {l : List Char}, cutAt c l = none → c ∉ l ∧ splitC c l = [l] ∧ l.count c = 0
  | [], _ => by simp [splitC]
  | x :: r, h => by
    unfold cutAt at h
    by_cases e : x = c
    · rw [if_pos e] at h; cases h
    · rw [if_neg e] at h
      have h' : cutAt c r = none := by
        cases q : cutAt c r with
        | none => rfl
        | some z => rw [q] at h; cases h
      obtain ⟨h1, h2, h3⟩ := cutAt_none h'
      refine ⟨?_, by unfold splitC; rw [if_neg e, h2], ?_⟩
      · simp [h1, Ne.symm e]
      · simp [h3, e]
theorem cutAt_some {c : Char} : ∀ {l a b : List Char}, cutAt c l = some (a, b) → splitC c l = a :: splitC c b ∧ l.count c = b.count c + 1 ∧ a.length + b.length + 1 = l.length
  | [], _, _, h => by cases h
  | x :: r, a, b, h => by
    unfold cutAt at h
    by_cases e : x = c
    · rw [if_pos e] at h
      cases h
      refine ⟨by rw [splitC, if_pos e], by simp [e], by simp⟩
    · rw [if_neg e] at h
      cases q : cutAt c r with
      | none => rw [q] at h; cases h
      | some z =>
        obtain ⟨u, v⟩ := z
        rw [q] at h
        cases h
        obtain ⟨h1, h2, h3⟩ := cutAt_some q
        refine ⟨by rw [splitC, if_neg e, h1], by simp [h2, e], by simp; omega⟩

/-! from M4 -/
theorem cut_1 {α : Type} {x : α} {r : List α} : cut (x :: r) (some 1) none = r := by
  simp [cut, sIx]
theorem eq_str {h : D} {t : String} {st : Store} (hc : cmpb h = true) (hn : ∀ s, h ≠ .str s) : cmpV .eq h (.str t) st = some false := by
  cases h <;> first | (cases hc; done) | (exact absurd rfl (hn _)) | simp [cmpV, eqB, flat1, okEq, scal, cmpb, D.eq]
theorem eq_nil_t {xs : List D} {st : Store} : cmpV .eq (.tup xs) (.tup []) st = some xs.isEmpty := by
  cases xs <;> simp [cmpV, eqB, flat1, okEq, isNil, cmpb, D.eq, D.eqAll]

/-! from M6 -/
mutual
theorem same_refl : ∀ d : D, D.same d d = true
  | .non => rfl
  | .bl b => by simp [D.same]
  | .int i => by simp [D.same]
  | .str s => by simp [D.same]
  | .tup xs => by simp [D.same, sameAll_refl xs]
  | .lst xs => by simp [D.same, sameAll_refl xs]
  | .ro xs => by simp [D.same, sameAll_refl xs]
  | .dct ks vs => by simp [D.same, sameAll_refl vs]
  | .loc n => by simp [D.same]
theorem sameAll_refl : ∀ xs : List D, D.sameAll xs xs = true
  | [] => rfl
  | x :: xs => by simp [D.sameAll, same_refl x, sameAll_refl xs]
end
theorem guard_loc {xs ys : List D} {n : Nat} {st : Store} (h : st[n]? = some (.lst ys)) : guard ⟨xs, [(n, ys)]⟩ st = true := by
  simp [guard, guardL, h, sameAll_refl]
/-- what was there is as it was -/
def Ext (st st' : Store) : Prop := ∀ (n : Nat) (c : Cell), st[n]? = some c → st'[n]? = some c
theorem Ext.refl {st : Store} : Ext st st := fun _ _ h => h
theorem Ext.trans {a b c : Store} (x : Ext a b) (y : Ext b c) : Ext a c := fun n d h => y n d (x n d h)
theorem Ext.app {st more : Store} : Ext st (st ++ more) := fun n c h => by
  rw [List.getElem?_append_left (List.getElem?_eq_some_iff.mp h).1]; exact h
theorem Ext.len {a b : Store} (x : Ext a b) : a.length ≤ b.length := by
  cases h : a.length with
  | zero => omega
  | succ n =>
    obtain ⟨c, hc⟩ : ∃ c, a[n]? = some c := ⟨a[n], List.getElem?_eq_getElem (by omega)⟩
    have := (List.getElem?_eq_some_iff.mp (x n c hc)).1
    omega
theorem Ext.set {a b : Store} {n : Nat} {c : Cell} (x : Ext a b) (h : a.length ≤ n) : Ext a (b.set n c) := fun i d hi => by
  have := (List.getElem?_eq_some_iff.mp hi).1
  rw [List.getElem?_set_ne (by omega)]
  exact x i d hi
def Ints (l : List Int) : List D := l.map D.int
theorem ints_D : ∀ l : List Int, intsD (Ints l) = some l
  | [] => rfl
  | i :: l => by
    have := ints_D l
    simp only [Ints, List.map_cons] at this ⊢
    simp [intsD, this]
theorem sum_ints {m : Bool} {l : List Int} {st : Store} : biV .sum m [.lst (Ints l)] st = .ok (.int l.sum) st := by
  show Res.of (((lstOf st (.lst (Ints l))).bind intsD).map fun l => D.int l.sum) st = _
  rw [show (lstOf st (.lst (Ints l))).bind intsD = some l from ints_D l]
  rfl
theorem scal_ints (l : List Int) : (Ints l).all scal = true := by simp [Ints, scal]
theorem isIn_ints (x : Int) (l : List Int) : isIn (.int x) (Ints l) = l.contains x := by
  rw [Bool.eq_iff_iff]
  simp [isIn, Ints, D.eq]

/-! from M7 -/
/-- each once, where it first stands -/
def nub : List Int → List Int
  | [] => []
  | x :: r => x :: (nub r).filter (· ≠ x)
theorem mem_nub {y : Int} : ∀ {l : List Int}, y ∈ nub l ↔ y ∈ l
  | [] => by simp [nub]
  | x :: r => by
    have ih := mem_nub (y := y) (l := r)
    simp only [nub, List.mem_cons, List.mem_filter, ih, ne_eq, decide_not, Bool.not_eq_true', decide_eq_false_iff_not]
    by_cases h : y = x <;> simp [h]
theorem nub_len : ∀ l : List Int, (nub l).length ≤ l.length
  | [] => by simp [nub]
  | x :: r => by
    have h1 := nub_len r
    have h2 := List.length_filter_le (fun y => decide (y ≠ x)) (nub r)
    simp only [nub, List.length_cons]
    omega
/-- acc, then what of l is new -/
def dd (acc l : List Int) : List Int := acc ++ (nub l).filter fun y => !acc.contains y
theorem dd_nil (acc : List Int) : dd acc [] = acc := by simp [dd, nub]
theorem dd_cons (acc : List Int) (x : Int) (r : List Int) : dd acc (x :: r) = dd (if x ∈ acc then acc else acc ++ [x]) r := by
  unfold dd
  by_cases h : x ∈ acc
  · simp only [h, if_true, nub]
    rw [List.filter_cons]
    simp only [List.contains_iff_mem.mpr h, Bool.not_true, Bool.false_eq_true, if_false, List.filter_filter]
    congr 1
    refine List.filter_congr fun y hy => ?_
    by_cases e : y = x
    · subst e; simp [h]
    · simp [e]
  · simp only [h, if_false, nub]
    rw [List.filter_cons]
    have hc : acc.contains x = false := by simpa using h
    simp only [hc, Bool.not_false, if_true, List.filter_filter, List.append_assoc]
    congr 1
    simp only [List.singleton_append, List.cons.injEq, true_and]
    refine List.filter_congr fun y hy => ?_
    by_cases e : y = x
    · subst e; simp
    · simp [e]
theorem dd_app : ∀ (a b acc : List Int), dd acc (a ++ b) = dd (dd acc a) b
  | [], b, acc => by rw [List.nil_append, dd_nil]
  | x :: a, b, acc => by rw [List.cons_append, dd_cons, dd_cons, dd_app a b]
theorem dd_nub (l : List Int) : dd [] l = nub l := by simp [dd]
theorem nub_app (a b : List Int) : nub (a ++ b) = nub a ++ (nub b).filter fun y => !(nub a).contains y := by
  rw [← dd_nub, dd_app, dd_nub]; rfl
theorem inB_loc {x : Int} {l : List Int} {n : Nat} {st : Store} (h : st[n]? = some (.lst (Ints l))) : cmpV .isin (.int x) (.loc n) st = some (l.contains x) := by
  show inB (.int x) (.loc n) st = _
  have : inB (.int x) (.loc n) st = if (scal (.int x) && (Ints l).all scal) = true then some (isIn (.int x) (Ints l)) else none := by
    simp only [inB, seqOf, h]
  rw [this, scal_ints, isIn_ints]
  rfl
theorem inB_lst {x : Int} {l : List Int} {st : Store} : cmpV .isin (.int x) (.lst (Ints l)) st = some (l.contains x) := by
  show inB (.int x) (.lst (Ints l)) st = _
  have : inB (.int x) (.lst (Ints l)) st = if (scal (.int x) && (Ints l).all scal) = true then some (isIn (.int x) (Ints l)) else (match dctOf st (.lst (Ints l)), kyOf (.int x) with
      | some (ks, vs), some k => some (lookK ks vs k).isSome
      | _, _ => none) := by
    simp only [inB, seqOf]
    split <;> simp_all [dctOf]
  rw [this, scal_ints, isIn_ints]
  rfl
theorem ext_is {n : Nat} {xs : List D} {st : Store} (h : st[n]? = some (.lst xs)) : meIs st .extend (.loc n) = true := by simp only [meIs, h]
theorem ext_loc {m : Bool} {n : Nat} {a : D} {xs ys : List D} {st : Store} {Q : D → Store → Prop} (h : st[n]? = some (.lst xs)) (ha : lstOf st a = some ys) : W (meV .extend m (.loc n) [a] st) Q ↔ xs.length + ys.length ≤ LINE ∧ Q .non (st.set n (.lst (xs ++ ys))) := by
  have : meV .extend m (.loc n) [a] st = if xs.length + ys.length ≤ LINE then .ok .non (st.set n (.lst (xs ++ ys))) else .no := by
    simp only [meV, h, ha]
  rw [this]
  exact W_guard
theorem filter_int (p : Int → Bool) (l : List Int) : (Ints l).filter (fun d => match d with | .int i => p i | _ => false) = Ints (l.filter p) := by
  induction l with
  | nil => rfl
  | cons i l ih =>
    simp only [Ints, List.map_cons] at ih ⊢
    by_cases h : p i = true <;> simp [h, ih]

/-! from M9 -/
theorem cut_m1 {α : Type} {xs : List α} : cut xs none (some (-1)) = xs.take (xs.length - 1) := by
  have : (-1 + (xs.length : Int)).toNat = xs.length - 1 := by omega
  simp [cut, sIx, this]
theorem cut_1' {α : Type} {x : α} {r : List α} : cut (x :: r) none (some 1) = [x] := by
  simp [cut, sIx]
theorem W_ixl {xs : List D} {i : Int} {st : Store} {Q : D → Store → Prop} (h0 : 0 ≤ i) (h1 : i < xs.length) (h : ∀ r ∈ xs, Q r st) : W (Res.of (atI xs i) st) Q := by
  obtain ⟨r, e1, e2⟩ := atI_of h0 h1
  rw [e1]
  exact h r e2

/-! from M10 -/
theorem ixN_nat {n j : Nat} (h : j < n) : ixN n (j : Int) = some j := by
  have : ((j : Nat) : Int) < (n : Int) := by omega
  simp [ixN, this]
theorem eq_nil {xs : List D} {st : Store} : cmpV .eq (.lst xs) (.lst []) st = some xs.isEmpty := by
  cases xs <;> simp [cmpV, eqB, flat1, okEq, isNil, cmpb, D.eq, D.eqAll]
theorem filter_empty {p : D → Bool} : ∀ {l : List D}, (l.filter fun x => !p x).isEmpty = l.all p
  | [] => rfl
  | x :: l => by
    have ih := filter_empty (p := p) (l := l)
    by_cases hx : p x = true
    · simp [hx] at ih ⊢; exact ih
    · simp [hx]
theorem one_in (c : Char) (t : String) (st : Store) : cmpV .notin (.str (String.singleton c)) (.str t) st = some (!t.toList.contains c) := by
  simp [cmpV, inB]
theorem eq_nil_loc {m : Nat} {xs : List D} {st : Store} (h : st[m]? = some (.lst xs)) : cmpV .eq (.loc m) (.lst []) st = some xs.isEmpty := by
  have : flat1 st (.loc m) = .lst xs := by simp only [flat1, h]
  rw [← eq_nil (st := st)]
  simp only [cmpV, eqB, this]
  rfl
theorem rkAll_ints (l : List Int) : D.rkAll (Ints l) = 0 := by
  induction l with
  | nil => rfl
  | cons i l ih => simp only [Ints, List.map_cons] at ih ⊢; simp only [D.rkAll, D.rk, ih]; rfl
theorem eqAll_ints (l : List Int) : D.eqAll (Ints l) (Ints l) = true := by
  induction l with
  | nil => rfl
  | cons i l ih => simp only [Ints, List.map_cons] at ih ⊢; simp only [D.eqAll, eq_ii, ih]; simp
theorem ne_ints {l : List Int} {st : Store} : cmpV .ne (.lst (Ints l)) (.lst (Ints l)) st = some false := by
  have h1 : okEq (.lst (Ints l)) (.lst (Ints l)) = true := by
    simp [okEq, D.rk, rkAll_ints]
  have h2 : D.eq (.lst (Ints l)) (.lst (Ints l)) = true := by
    show D.eqAll (Ints l) (Ints l) = true
    exact eqAll_ints l
  simp only [cmpV, eqB, flat1, h1, h2]
  rfl
theorem cut_to {α : Type} {xs : List α} {i : Nat} : cut xs none (some (i : Int)) = xs.take i := by
  have : ¬ ((i : Int) < 0) := by omega
  simp [cut, sIx, this]
theorem walk_of {st : Store} {v : D} {xs : List D} (h : lstOf st v = some xs) : ∃ ats, wlkL v st = some ⟨xs, ats⟩ ∧ (∀ ys, guard ⟨ys, ats⟩ st = true) ∧ lroOf st v = some xs ∧ (∀ i : Nat, sliV false v none (some (i : Int)) st = .ok (.lst (xs.take i)) st) := by
  cases v <;> first | (cases h; done) | skip
  · cases h
    refine ⟨[], rfl, fun _ => rfl, rfl, fun i => ?_⟩
    show newL false (cut xs none (some (i : Int))) st = _
    rw [cut_to]; rfl
  · rename_i n
    have hn : st[n]? = some (.lst xs) := by
      simp only [lstOf] at h
      split at h
      · rename_i q; cases h; exact q
      · cases h
    refine ⟨[(n, xs)], by simp only [wlkL, hn], fun _ => guard_loc hn, by simp only [lroOf, hn], fun i => ?_⟩
    have : sliV false (.loc n) none (some (i : Int)) st = newL false (cut xs none (some (i : Int))) st := by simp only [sliV, lroOf, hn]
    rw [this, cut_to]; rfl
theorem nub_snoc (p : List Int) (x : Int) : nub (p ++ [x]) = if x ∈ p then nub p else nub p ++ [x] := by
  rw [nub_app]
  have : nub [x] = [x] := rfl
  rw [this]
  by_cases h : x ∈ p
  · have : x ∈ nub p := mem_nub.mpr h
    simp [h, this]
  · have : x ∉ nub p := fun z => h (mem_nub.mp z)
    simp [h, this]
/-! texts -/
/-- texts of at most n signs -/
def Txts (n : Nat) (xs : List D) : Prop := ∀ x ∈ xs, ∃ t : String, x = .str t ∧ t.length ≤ n
theorem Txts.nil {n : Nat} : Txts n [] := fun x h => by cases h
theorem Txts.app {n : Nat} {xs ys : List D} (h : Txts n xs) (h' : Txts n ys) : Txts n (xs ++ ys) := fun x hx => by
  rcases List.mem_append.mp hx with z | z
  · exact h x z
  · exact h' x z
theorem Txts.one {n : Nat} {t : String} (h : t.length ≤ n) : Txts n [.str t] := fun x hx => by
  rw [List.mem_singleton.mp hx]; exact ⟨t, rfl, h⟩
theorem join_len (sep : String) : ∀ l : List String, (joinS sep l).length ≤ joinLen sep.length l
  | [] => by simp [joinS]
  | [x] => by simp [joinS, joinLen]
  | x :: y :: r => by
    have ih := join_len sep (y :: r)
    have e : joinLen sep.length (x :: y :: r) = x.length + (joinLen sep.length (y :: r)) + sep.length := by
      simp [joinLen, Nat.add_mul]; omega
    simp only [joinS, String.length_append, e]
    omega
theorem txts_of {n : Nat} {xs : List D} (h : Txts n xs) : ∃ l, strsD xs = some l ∧ xs = l.map D.str ∧ ∀ s ∈ l, s.length ≤ n := strs_of (p := fun s => s.length ≤ n) h
theorem joinLen_le {n : Nat} : ∀ {l : List String}, (∀ s ∈ l, s.length ≤ n) → joinLen 0 l ≤ l.length * n
  | [], _ => by simp [joinLen]
  | x :: l, h => by
    have h1 := h x (by simp)
    have h2 := joinLen_le (l := l) fun s hs => h s (by simp [hs])
    simp only [joinLen, Nat.mul_zero, Nat.add_zero, List.map_cons, List.sum_cons, List.length_cons] at h2 ⊢
    rw [Nat.add_mul]; omega
theorem cut_len {α : Type} {xs : List α} {lo hi : Option Int} : (cut xs lo hi).length ≤ xs.length := by
  unfold cut
  rw [List.length_take, List.length_drop]; omega
theorem W_seq {C : CallF} {s : S} {ss : Ss} {ρ : Slots} {st : Store} {Q : Fl → Store → Prop} : W (evSs C (.cons s ss) ρ st) Q ↔ W (evS C s ρ st) (fun f st => W (match f with | .nx ρ => evSs C ss ρ st | .rt d => Res.ok (.rt d) st) Q) := by
  rw [evSs, W_bind]
  try exact Iff.rfl
theorem evSs_nil {C : CallF} {ρ : Slots} {st : Store} : evSs C .nil ρ st = .ok (.nx ρ) st := by rw [evSs]
theorem W_forD {g : Store → Bool} {f : D → Slots → Store → Res Fl} {st : Store} {ρ : Slots} {Q : Fl → Store → Prop} (I : List D → Slots → Store → Prop) {as : List D} (h0 : I [] ρ st) (hg : ∀ ds ρ s, I ds ρ s → g s = true)
    (h : ∀ ds a ts, as = ds ++ a :: ts → ∀ ρ s, I ds ρ s → W (f a ρ s) fun o s' => match o with
      | .nx ρ => I (ds ++ [a]) ρ s'
      | .rt v => Q (.rt v) s') (hq : ∀ ρ s, I as ρ s → Q (.nx ρ) s) : W (forL g f as ρ st) Q := by
  have := W_forA I (fun d => d) (as := as) (f := f) (Q := Q) h0 hg h hq
  simpa using this
theorem lst_ext {st st' : Store} {v : D} {xs : List D} (h : lstOf st v = some xs) (e : Ext st st') : lstOf st' v = some xs := by
  cases v <;> first | (cases h; done) | skip
  · exact h
  · simp only [lstOf] at h ⊢
    split at h
    · rename_i q
      rw [e _ _ q]; exact h
    · cases h
theorem it_of {st : Store} {v : D} {xs : List D} (h : lstOf st v = some xs) : ∃ ats, itOf v st = some ⟨xs, ats⟩ ∧ ∀ st', Ext st st' → guard ⟨xs, ats⟩ st' = true := by
  cases v <;> first | (cases h; done) | skip
  · cases h
    exact ⟨[], rfl, fun _ _ => rfl⟩
  · rename_i n
    have hn : st[n]? = some (.lst xs) := by
      simp only [lstOf] at h
      split at h
      · rename_i q; cases h; exact q
      · cases h
    exact ⟨[(n, xs)], by simp only [itOf, wlkL, hn], fun s e => guard_loc (e _ _ hn)⟩
theorem it_of' {st : Store} {v : D} {xs : List D} (h : lstOf st v = some xs) : ∃ ats, ∀ st', Ext st st' → itOf v st' = some ⟨xs, ats⟩ ∧ guard ⟨xs, ats⟩ st' = true := by
  cases v <;> first | (cases h; done) | skip
  · cases h
    exact ⟨[], fun _ _ => ⟨rfl, rfl⟩⟩
  · rename_i n
    have hn : st[n]? = some (.lst xs) := by
      simp only [lstOf] at h
      split at h
      · rename_i q; cases h; exact q
      · cases h
    exact ⟨[(n, xs)], fun s e => ⟨by simp only [itOf, wlkL, e _ _ hn], guard_loc (e _ _ hn)⟩⟩
end Rx

namespace k13
open Rx
abbrev i_within : Nat := 0
abbrev i_opens_in : Nat := 1
abbrev i_with_within : Nat := 2
abbrev i_filled : Nat := 3
abbrev i_heads_alike : Nat := 4
abbrev i_matches : Nat := 5
abbrev i_matched : Nat := 6
abbrev i_numbered : Nat := 7
abbrev i_law_cell : Nat := 8
abbrev i_law_mixed : Nat := 9
abbrev i_law_box : Nat := 10
abbrev i_law_take : Nat := 11
abbrev i_law_word : Nat := 12
abbrev i_law_name : Nat := 13
abbrev i_law_kind : Nat := 14
abbrev i_law_deep : Nat := 15
abbrev i_law_within : Nat := 16
abbrev i_law_with : Nat := 17
abbrev i_law_spoilt : Nat := 18
abbrev i_law_fits : Nat := 19
abbrev i_law_right : Nat := 20
abbrev i_law : Nat := 21
/-- within, statement 1 of the top; names: kind -/
def N_within : List PySem.Str := ["kind"]
def c_within : Fn := ⟨1, 1,
    (.cons (.iff (.cmp .eq (.ix (.var 0) (.lit (.int 0))) (.lit (.str "made"))) (.cons (.ret (.ix (.var 0) (.lit (.int 2))))
    .nil) .nil)
    (.cons (.iff (.ors (.cons (.cmp .eq (.ix (.var 0) (.lit (.int 0))) (.lit (.str "fn"))) (.cons (.cmp .eq (.ix (.var 0) (.lit (.int 0))) (.lit (.str "ref"))) .nil))) (.cons (.ret (.sl false (.var 0) (.som (.lit (.int 1))) .non))
    .nil) .nil)
    (.cons (.ret (.tup .nil))
    .nil)))⟩
/-- opens_in, statement 2 of the top; names: kind found one name -/
def N_opens_in : List PySem.Str := ["kind", "found", "one", "name"]
def c_opens_in : Fn := ⟨1, 4,
    (.cons (.iff (.cmp .eq (.ix (.var 0) (.lit (.int 0))) (.lit (.str "open"))) (.cons (.ret (.tup (.cons (.ix (.var 0) (.lit (.int 1))) .nil)))
    .nil) .nil)
    (.cons (.asg (.nm 1) (.lst true .nil))
    (.cons (.for_ (.nm 2) (.it (.call i_within (.cons (.var 0) .nil))) (.cons (.expr (.me .extend false (.var 1) (.cons (.lc false (.var 3) (.nm 3) (.it (.call i_opens_in (.cons (.var 2) .nil))) (.som (.cmp .notin (.var 3) (.var 1))) [3]) .nil)))
    .nil))
    (.cons (.ret (.bi .tuple false (.cons (.var 1) .nil)))
    .nil))))⟩
/-- with_within, statement 3 of the top; names: kind kinds -/
def N_with_within : List PySem.Str := ["kind", "kinds"]
def c_with_within : Fn := ⟨2, 2,
    (.cons (.iff (.cmp .eq (.ix (.var 0) (.lit (.int 0))) (.lit (.str "made"))) (.cons (.ret (.tup (.cons (.lit (.str "made")) (.cons (.ix (.var 0) (.lit (.int 1))) (.cons (.bi .tuple false (.cons (.var 1) .nil)) .nil)))))
    .nil) .nil)
    (.cons (.ret (.bop .add false (.sl false (.var 0) .non (.som (.lit (.int 1)))) (.bi .tuple false (.cons (.var 1) .nil))))
    .nil))⟩
/-- filled, statement 4 of the top; names: kind filling one -/
def N_filled : List PySem.Str := ["kind", "filling", "one"]
def c_filled : Fn := ⟨2, 3,
    (.cons (.iff (.cmp .eq (.ix (.var 0) (.lit (.int 0))) (.lit (.str "open"))) (.cons (.ret (.me .get2 false (.var 1) (.cons (.ix (.var 0) (.lit (.int 1))) (.cons (.var 0) .nil))))
    .nil) .nil)
    (.cons (.iff (.cmp .eq (.ix (.var 0) (.lit (.int 0))) (.lit (.str "num"))) (.cons (.ret (.var 0))
    .nil) .nil)
    (.cons (.ret (.call i_with_within (.cons (.var 0) (.cons (.lc false (.call i_filled (.cons (.var 2) (.cons (.var 1) .nil))) (.nm 2) (.it (.call i_within (.cons (.var 0) .nil))) .non [2]) .nil))))
    .nil)))⟩
/-- heads_alike, statement 5 of the top; names: one other -/
def N_heads_alike : List PySem.Str := ["one", "other"]
def c_heads_alike : Fn := ⟨2, 2,
    (.cons (.iff (.ors (.cons (.cmp .ne (.ix (.var 0) (.lit (.int 0))) (.ix (.var 1) (.lit (.int 0)))) (.cons (.ands (.cons (.cmp .eq (.ix (.var 0) (.lit (.int 0))) (.lit (.str "made"))) (.cons (.cmp .ne (.ix (.var 0) (.lit (.int 1))) (.ix (.var 1) (.lit (.int 1)))) .nil))) .nil))) (.cons (.ret (.lit (.bl false)))
    .nil) .nil)
    (.cons (.ret (.cmp .eq (.bi .len false (.cons (.call i_within (.cons (.var 0) .nil)) .nil)) (.bi .len false (.cons (.call i_within (.cons (.var 1) .nil)) .nil))))
    .nil))⟩
/-- matches, statement 6 of the top; names: kind other found one there -/
def N_matches : List PySem.Str := ["kind", "other", "found", "one", "there"]
def c_matches : Fn := ⟨3, 5,
    (.cons (.iff (.cmp .eq (.ix (.var 0) (.lit (.int 0))) (.lit (.str "open"))) (.cons (.iff (.cmp .notin (.ix (.var 0) (.lit (.int 1))) (.var 2)) (.cons (.put (.var 2) (.ix (.var 0) (.lit (.int 1))) (.var 1))
    .nil) .nil)
    (.cons (.ret (.cmp .eq (.ix (.var 2) (.ix (.var 0) (.lit (.int 1)))) (.var 1)))
    .nil)) .nil)
    (.cons (.iff (.inot (.call i_heads_alike (.cons (.var 0) (.cons (.var 1) .nil)))) (.cons (.ret (.lit (.bl false)))
    .nil) .nil)
    (.cons (.for_ (.tu [3, 4]) (.zip (.call i_within (.cons (.var 0) .nil)) (.call i_within (.cons (.var 1) .nil))) (.cons (.iff (.inot (.call i_matches (.cons (.var 3) (.cons (.var 4) (.cons (.var 2) .nil))))) (.cons (.ret (.lit (.bl false)))
    .nil) .nil)
    .nil))
    (.cons (.ret (.lit (.bl true)))
    .nil))))⟩
/-- matched, statement 7 of the top; names: kind other found -/
def N_matched : List PySem.Str := ["kind", "other", "found"]
def c_matched : Fn := ⟨2, 3,
    (.cons (.asg (.nm 2) (.dct true .nil))
    (.cons (.iff (.call i_matches (.cons (.var 0) (.cons (.var 1) (.cons (.var 2) .nil)))) (.cons (.ret (.var 2))
    .nil) .nil)
    (.cons (.ret (.lit .non))
    .nil)))⟩
/-- numbered, statement 8 of the top; names: kind filling number name -/
def N_numbered : List PySem.Str := ["kind", "filling", "number", "name"]
def c_numbered : Fn := ⟨1, 4,
    (.cons (.asg (.nm 1) (.dct true .nil))
    (.cons (.for_ (.tu [2, 3]) (.enum (.call i_opens_in (.cons (.var 0) .nil))) (.cons (.put (.var 1) (.var 3) (.tup (.cons (.lit (.str "open")) (.cons (.var 2) .nil))))
    .nil))
    (.cons (.ret (.call i_filled (.cons (.var 0) (.cons (.var 1) .nil))))
    .nil)))⟩
/-- _law_cell, statement 10 of the top; names: script k -/
def N_law_cell : List PySem.Str := ["script", "k"]
def c_law_cell : Fn := ⟨2, 2,
    (.cons (.iff (.cmp .lt (.var 1) (.bi .len false (.cons (.var 0) .nil))) (.cons (.ret (.ix (.var 0) (.var 1)))
    .nil) .nil)
    (.cons (.ret (.bop .add false (.bop .mul false (.lit (.int 7919)) (.var 1)) (.lit (.int 13))))
    .nil))⟩
/-- _law_mixed, statement 11 of the top; names: cell k number -/
def N_law_mixed : List PySem.Str := ["cell", "k", "number"]
def c_law_mixed : Fn := ⟨2, 3,
    (.cons (.asg (.nm 2) (.bop .mod false (.bop .add false (.bop .add false (.var 0) (.bop .mul false (.lit (.int 7919)) (.var 1))) (.lit (.int 12345))) (.lit (.int 2147483629))))
    (.cons (.asg (.nm 2) (.bop .mod false (.bop .add false (.bop .mul false (.var 2) (.var 2)) (.bop .mul false (.lit (.int 48271)) (.var 1))) (.lit (.int 2147483629))))
    (.cons (.ret (.bop .mod false (.bop .mul false (.var 2) (.var 2)) (.lit (.int 2147483587))))
    .nil)))⟩
/-- _law_box, statement 12 of the top; names: script k cell -/
def N_law_box : List PySem.Str := ["script", "k", "cell"]
def c_law_box : Fn := ⟨2, 3,
    (.cons (.asg (.nm 2) (.call i_law_cell (.cons (.var 0) (.cons (.var 1) .nil))))
    (.cons (.iff (.cmp .ge (.var 2) (.bop .pow false (.lit (.int 10)) (.lit (.int 18)))) (.cons (.ret (.lst true (.cons (.var 2) (.cons (.lit (.int 0)) (.cons (.lit (.int 0)) .nil)))))
    .nil) .nil)
    (.cons (.ret (.lst true (.cons (.lit (.int 0)) (.cons (.bop .mod false (.var 2) (.lit (.int 2147483647))) (.cons (.lit (.int 0)) .nil)))))
    .nil)))⟩
/-- _law_take, statement 13 of the top; names: box many digit -/
def N_law_take : List PySem.Str := ["box", "many", "digit"]
def c_law_take : Fn := ⟨2, 3,
    (.cons (.iff (.cmp .gt (.ix (.var 0) (.lit (.int 0))) (.lit (.int 0))) (.cons (.asg (.nm 2) (.bop .mod false (.ix (.var 0) (.lit (.int 0))) (.var 1)))
    (.cons (.put (.var 0) (.lit (.int 0)) (.bop .div false (.ix (.var 0) (.lit (.int 0))) (.var 1)))
    (.cons (.ret (.var 2))
    .nil))) .nil)
    (.cons (.put (.var 0) (.lit (.int 2)) (.bop .add false (.ix (.var 0) (.lit (.int 2))) (.lit (.int 1))))
    (.cons (.ret (.bop .mod false (.call i_law_mixed (.cons (.ix (.var 0) (.lit (.int 1))) (.cons (.ix (.var 0) (.lit (.int 2))) .nil))) (.var 1)))
    .nil)))⟩
/-- _law_word, statement 14 of the top; names: box k -/
def N_law_word : List PySem.Str := ["box", "k"]
def c_law_word : Fn := ⟨1, 2,
    (.cons (.ret (.me .join false (.lit (.str "")) (.cons (.lc false (.ix (.lit (.str "abcdefghijklmnopqrstuvwxyz")) (.call i_law_take (.cons (.var 0) (.cons (.lit (.int 26)) .nil)))) (.nm 1) (.rng (.bop .add false (.lit (.int 1)) (.call i_law_take (.cons (.var 0) (.cons (.lit (.int 6)) .nil))))) .non [1]) .nil)))
    .nil)⟩
/-- _law_name, statement 15 of the top; names: box -/
def N_law_name : List PySem.Str := ["box"]
def c_law_name : Fn := ⟨1, 1,
    (.cons (.iff (.cmp .eq (.call i_law_take (.cons (.var 0) (.cons (.lit (.int 3)) .nil))) (.lit (.int 0))) (.cons (.ret (.bop .add false (.bop .add false (.call i_law_word (.cons (.var 0) .nil)) (.lit (.str "."))) (.call i_law_word (.cons (.var 0) .nil))))
    .nil) .nil)
    (.cons (.ret (.call i_law_word (.cons (.var 0) .nil)))
    .nil))⟩
/-- _law_kind, statement 16 of the top; names: box names most deep way name k -/
def N_law_kind : List PySem.Str := ["box", "names", "most", "deep", "way", "name", "k"]
def c_law_kind : Fn := ⟨4, 7,
    (.cons (.asg (.nm 4) (.call i_law_take (.cons (.var 0) (.cons (.lit (.int 8)) .nil))))
    (.cons (.iff (.ors (.cons (.cmp .lt (.var 3) (.lit (.int 1))) (.cons (.cmp .lt (.var 4) (.lit (.int 2))) .nil))) (.cons (.ret (.ix (.lst false (.cons (.tup (.cons (.lit (.str "num")) .nil)) (.cons (.tup (.cons (.lit (.str "open")) (.cons (.call i_law_take (.cons (.var 0) (.cons (.var 2) .nil))) .nil))) .nil))) (.bop .mod false (.var 4) (.lit (.int 2)))))
    .nil) .nil)
    (.cons (.iff (.cmp .eq (.var 4) (.lit (.int 2))) (.cons (.ret (.tup (.cons (.lit (.str "open")) (.cons (.call i_law_take (.cons (.var 0) (.cons (.var 2) .nil))) .nil))))
    .nil) .nil)
    (.cons (.iff (.cmp .lt (.var 4) (.lit (.int 5))) (.cons (.ret (.tup (.cons (.lit (.str "fn")) (.cons (.call i_law_kind (.cons (.var 0) (.cons (.var 1) (.cons (.var 2) (.cons (.bop .sub false (.var 3) (.lit (.int 1))) .nil))))) (.cons (.call i_law_kind (.cons (.var 0) (.cons (.var 1) (.cons (.var 2) (.cons (.bop .sub false (.var 3) (.lit (.int 1))) .nil))))) .nil)))))
    .nil) .nil)
    (.cons (.iff (.cmp .eq (.var 4) (.lit (.int 5))) (.cons (.ret (.tup (.cons (.lit (.str "ref")) (.cons (.call i_law_kind (.cons (.var 0) (.cons (.var 1) (.cons (.var 2) (.cons (.bop .sub false (.var 3) (.lit (.int 1))) .nil))))) .nil))))
    .nil) .nil)
    (.cons (.asg (.nm 5) (.ix (.var 1) (.call i_law_take (.cons (.var 0) (.cons (.bi .len false (.cons (.var 1) .nil)) .nil)))))
    (.cons (.ret (.tup (.cons (.lit (.str "made")) (.cons (.var 5) (.cons (.bi .tuple false (.cons (.lc false (.call i_law_kind (.cons (.var 0) (.cons (.var 1) (.cons (.var 2) (.cons (.bop .sub false (.var 3) (.lit (.int 1))) .nil))))) (.nm 6) (.rng (.call i_law_take (.cons (.var 0) (.cons (.lit (.int 3)) .nil)))) .non [6]) .nil)) .nil)))))
    .nil)))))))⟩
/-- _law_deep, statement 17 of the top; names: box names most kind beside k way -/
def N_law_deep : List PySem.Str := ["box", "names", "most", "kind", "beside", "k", "way"]
def c_law_deep : Fn := ⟨3, 7,
    (.cons (.asg (.nm 3) (.tup (.cons (.lit (.str "open")) (.cons (.call i_law_take (.cons (.var 0) (.cons (.var 2) .nil))) .nil))))
    (.cons (.asg (.nm 4) (.tup (.cons (.lit (.str "fn")) (.cons (.tup (.cons (.lit (.str "num")) .nil)) (.cons (.tup (.cons (.lit (.str "num")) .nil)) .nil)))))
    (.cons (.for_ (.nm 5) (.rng (.lit (.int 42))) (.cons (.asg (.nm 6) (.call i_law_take (.cons (.var 0) (.cons (.lit (.int 4)) .nil))))
    (.cons (.asg (.nm 3) (.ix (.lst false (.cons (.tup (.cons (.lit (.str "fn")) (.cons (.var 3) (.cons (.var 4) .nil)))) (.cons (.tup (.cons (.lit (.str "fn")) (.cons (.var 4) (.cons (.var 3) .nil)))) (.cons (.tup (.cons (.lit (.str "ref")) (.cons (.var 3) .nil))) (.cons (.tup (.cons (.lit (.str "made")) (.cons (.ix (.var 1) (.lit (.int 0))) (.cons (.tup (.cons (.var 4) (.cons (.var 3) .nil))) .nil)))) .nil))))) (.var 6)))
    .nil)))
    (.cons (.ret (.var 3))
    .nil))))⟩
/-- _law_within, statement 18 of the top; names: kind -/
def N_law_within : List PySem.Str := ["kind"]
def c_law_within : Fn := ⟨1, 1,
    (.cons (.iff (.cmp .eq (.ix (.var 0) (.lit (.int 0))) (.lit (.str "made"))) (.cons (.ret (.bi .list true (.cons (.ix (.var 0) (.lit (.int 2))) .nil)))
    .nil) .nil)
    (.cons (.iff (.cmp .isin (.ix (.var 0) (.lit (.int 0))) (.tup (.cons (.lit (.str "fn")) (.cons (.lit (.str "ref")) .nil)))) (.cons (.ret (.bi .list true (.cons (.sl false (.var 0) (.som (.lit (.int 1))) .non) .nil)))
    .nil) .nil)
    (.cons (.ret (.lst true .nil))
    .nil)))⟩
/-- _law_with, statement 19 of the top; names: kind kinds -/
def N_law_with : List PySem.Str := ["kind", "kinds"]
def c_law_with : Fn := ⟨2, 2,
    (.cons (.iff (.cmp .eq (.ix (.var 0) (.lit (.int 0))) (.lit (.str "made"))) (.cons (.ret (.tup (.cons (.lit (.str "made")) (.cons (.ix (.var 0) (.lit (.int 1))) (.cons (.bi .tuple false (.cons (.var 1) .nil)) .nil)))))
    .nil) .nil)
    (.cons (.ret (.bop .add false (.sl false (.var 0) .non (.som (.lit (.int 1)))) (.bi .tuple false (.cons (.var 1) .nil))))
    .nil))⟩
/-- _law_spoilt, statement 20 of the top; names: box kind names kinds at -/
def N_law_spoilt : List PySem.Str := ["box", "kind", "names", "kinds", "at"]
def c_law_spoilt : Fn := ⟨3, 5,
    (.cons (.asg (.nm 3) (.call i_law_within (.cons (.var 1) .nil)))
    (.cons (.iff (.ors (.cons (.cmp .eq (.var 3) (.lst false .nil)) (.cons (.cmp .eq (.call i_law_take (.cons (.var 0) (.cons (.lit (.int 3)) .nil))) (.lit (.int 0))) .nil))) (.cons (.ret (.call i_law_kind (.cons (.var 0) (.cons (.var 2) (.cons (.lit (.int 5)) (.cons (.lit (.int 1)) .nil))))))
    .nil) .nil)
    (.cons (.asg (.nm 4) (.call i_law_take (.cons (.var 0) (.cons (.bi .len false (.cons (.var 3) .nil)) .nil))))
    (.cons (.put (.var 3) (.var 4) (.call i_law_spoilt (.cons (.var 0) (.cons (.ix (.var 3) (.var 4)) (.cons (.var 2) .nil)))))
    (.cons (.ret (.call i_law_with (.cons (.var 1) (.cons (.var 3) .nil))))
    .nil)))))⟩
/-- _law_fits, statement 21 of the top; names: kind other found ahead behind one there -/
def N_law_fits : List PySem.Str := ["kind", "other", "found", "ahead", "behind", "one", "there"]
def c_law_fits : Fn := ⟨3, 7,
    (.cons (.iff (.cmp .eq (.ix (.var 0) (.lit (.int 0))) (.lit (.str "open"))) (.cons (.ret (.cmp .eq (.me .setdef false (.var 2) (.cons (.ix (.var 0) (.lit (.int 1))) (.cons (.var 1) .nil))) (.var 1)))
    .nil) .nil)
    (.cons (.iff (.ors (.cons (.cmp .ne (.ix (.var 0) (.lit (.int 0))) (.ix (.var 1) (.lit (.int 0)))) (.cons (.ands (.cons (.cmp .eq (.ix (.var 0) (.lit (.int 0))) (.lit (.str "made"))) (.cons (.cmp .ne (.ix (.var 0) (.lit (.int 1))) (.ix (.var 1) (.lit (.int 1)))) .nil))) .nil))) (.cons (.ret (.lit (.bl false)))
    .nil) .nil)
    (.cons (.asg (.nm 3) (.call i_law_within (.cons (.var 0) .nil)))
    (.cons (.asg (.nm 4) (.call i_law_within (.cons (.var 1) .nil)))
    (.cons (.iff (.cmp .ne (.bi .len false (.cons (.var 3) .nil)) (.bi .len false (.cons (.var 4) .nil))) (.cons (.ret (.lit (.bl false)))
    .nil) .nil)
    (.cons (.ret (.cmp .notin (.lit (.bl false)) (.lc false (.call i_law_fits (.cons (.var 5) (.cons (.var 6) (.cons (.var 2) .nil)))) (.tu [5, 6]) (.zip (.var 3) (.var 4)) .non [5, 6])))
    .nil))))))⟩
/-- _law_right, statement 22 of the top; names: kind other due fits found -/
def N_law_right : List PySem.Str := ["kind", "other", "due", "fits", "found"]
def c_law_right : Fn := ⟨2, 5,
    (.cons (.asg (.nm 2) (.dct true .nil))
    (.cons (.asg (.nm 3) (.call i_law_fits (.cons (.var 0) (.cons (.var 1) (.cons (.var 2) .nil)))))
    (.cons (.asg (.nm 4) (.call i_matched (.cons (.var 0) (.cons (.var 1) .nil))))
    (.cons (.iff (.inot (.var 3)) (.cons (.ret (.cmp .is (.var 4) (.lit .non)))
    .nil) .nil)
    (.cons (.iff (.ors (.cons (.inot (.isi (.var 4) .dict)) (.cons (.cmp .ne (.var 4) (.var 2)) (.cons (.cmp .ne (.call i_filled (.cons (.var 0) (.cons (.var 4) .nil))) (.var 1)) .nil)))) (.cons (.ret (.lit (.bl false)))
    .nil) .nil)
    (.cons (.iff (.cmp .ne (.bi .sorted false (.cons (.var 4) .nil)) (.bi .sorted false (.cons (.call i_opens_in (.cons (.var 0) .nil)) .nil))) (.cons (.ret (.lit (.bl false)))
    .nil) .nil)
    (.cons (.expr (.me .clear false (.var 4) .nil))
    (.cons (.ret (.cmp .eq (.call i_matched (.cons (.var 0) (.cons (.var 1) .nil))) (.var 2)))
    .nil))))))))⟩
/-- law, statement 23 of the top; names: script k box names kind filling name other spoilt any_one one both j -/
def N_law : List PySem.Str := ["script", "k", "box", "names", "kind", "filling", "name", "other", "spoilt", "any_one", "one", "both", "j"]
def c_law : Fn := ⟨1, 13,
    (.cons (.for_ (.nm 1) (.rng (.bi .max false (.cons (.lit (.int 3)) (.cons (.bi .min false (.cons (.lit (.int 20)) (.cons (.bi .len false (.cons (.var 0) .nil)) .nil))) .nil)))) (.cons (.asg (.nm 2) (.call i_law_box (.cons (.var 0) (.cons (.var 1) .nil))))
    (.cons (.asg (.nm 3) (.lc false (.call i_law_name (.cons (.var 2) .nil)) (.nm 12) (.rng (.lit (.int 3))) .non [12]))
    (.cons (.asg (.nm 4) (.call i_law_kind (.cons (.var 2) (.cons (.var 3) (.cons (.lit (.int 5)) (.cons (.lit (.int 4)) .nil))))))
    (.cons (.iff (.cmp .eq (.call i_law_take (.cons (.var 2) (.cons (.lit (.int 8)) .nil))) (.lit (.int 0))) (.cons (.asg (.nm 4) (.call i_law_deep (.cons (.var 2) (.cons (.var 3) (.cons (.lit (.int 4)) .nil)))))
    .nil) .nil)
    (.cons (.asg (.nm 5) (.dct true .nil))
    (.cons (.for_ (.nm 6) (.it (.call i_opens_in (.cons (.var 4) .nil))) (.cons (.put (.var 5) (.var 6) (.call i_law_kind (.cons (.var 2) (.cons (.var 3) (.cons (.lit (.int 5)) (.cons (.lit (.int 2)) .nil))))))
    .nil))
    (.cons (.asg (.nm 7) (.call i_filled (.cons (.var 4) (.cons (.var 5) .nil))))
    (.cons (.asg (.nm 8) (.call i_law_spoilt (.cons (.var 2) (.cons (.var 7) (.cons (.var 3) .nil)))))
    (.cons (.asg (.nm 9) (.call i_law_kind (.cons (.var 2) (.cons (.var 3) (.cons (.lit (.int 5)) (.cons (.lit (.int 4)) .nil))))))
    (.cons (.iff (.ors (.cons (.cmp .ne (.call i_matched (.cons (.var 4) (.cons (.var 7) .nil))) (.var 5)) (.cons (.inot (.call i_law_right (.cons (.var 4) (.cons (.var 8) .nil)))) (.cons (.inot (.call i_law_right (.cons (.var 8) (.cons (.var 4) .nil)))) .nil)))) (.cons (.ret (.lit (.bl false)))
    .nil) .nil)
    (.cons (.for_ (.nm 10) (.it (.lst false (.cons (.var 9) (.cons (.var 7) (.cons (.var 8) .nil))))) (.cons (.iff (.ors (.cons (.inot (.call i_law_right (.cons (.var 4) (.cons (.var 10) .nil)))) (.cons (.inot (.call i_law_right (.cons (.var 10) (.cons (.var 4) .nil)))) .nil))) (.cons (.ret (.lit (.bl false)))
    .nil) .nil)
    (.cons (.asg (.nm 11) (.ands (.cons (.cmp .isnot (.call i_matched (.cons (.var 4) (.cons (.var 10) .nil))) (.lit .non)) (.cons (.cmp .isnot (.call i_matched (.cons (.var 10) (.cons (.var 4) .nil))) (.lit .non)) .nil))))
    (.cons (.iff (.cmp .ne (.var 11) (.cmp .eq (.call i_numbered (.cons (.var 4) .nil)) (.call i_numbered (.cons (.var 10) .nil)))) (.cons (.ret (.lit (.bl false)))
    .nil) .nil)
    .nil))))
    .nil))))))))))))
    (.cons (.ret (.lit (.bl true)))
    .nil))⟩
def P : List Fn := [c_within, c_opens_in, c_with_within, c_filled, c_heads_alike, c_matches, c_matched, c_numbered, c_law_cell, c_law_mixed, c_law_box, c_law_take, c_law_word, c_law_name, c_law_kind, c_law_deep, c_law_within, c_law_with, c_law_spoilt, c_law_fits, c_law_right, c_law]
end k13

set_option Elab.async false
set_option linter.all false
set_option maxRecDepth 10000
set_option maxHeartbeats 400000
set_option autoImplicit false
/-! kinds as data; filling, matching, numbering -/
namespace Rx
inductive Kd where
  | num | opn (i : Int) | fn (a b : Kd) | ref (a : Kd) | made (n : String) (ks : List Kd)
  deriving Inhabited
mutual
def toD : Kd → D
  | .num => .tup [.str "num"]
  | .opn i => .tup [.str "open", .int i]
  | .fn a b => .tup [.str "fn", toD a, toD b]
  | .ref a => .tup [.str "ref", toD a]
  | .made n ks => .tup [.str "made", .str n, .tup (toDs ks)]
def toDs : List Kd → List D
  | [] => []
  | k :: ks => toD k :: toDs ks
end
theorem toDs_map : ∀ ks : List Kd, toDs ks = ks.map toD
  | [] => rfl
  | k :: ks => by simp [toDs, toDs_map ks]
theorem toDs_len (ks : List Kd) : (toDs ks).length = ks.length := by rw [toDs_map, List.length_map]
def kids : Kd → List Kd
  | .fn a b => [a, b]
  | .ref a => [a]
  | .made _ ks => ks
  | _ => []
def hdS : Kd → String
  | .num => "num" | .opn _ => "open" | .fn _ _ => "fn" | .ref _ => "ref" | .made _ _ => "made"
mutual
def size : Kd → Nat
  | .num | .opn _ => 1
  | .fn a b => 1 + (size a + (size b + 0))
  | .ref a => 1 + (size a + 0)
  | .made _ ks => 1 + sizes ks
def sizes : List Kd → Nat
  | [] => 0
  | k :: ks => size k + sizes ks
end
theorem sizes_sum : ∀ ks : List Kd, sizes ks = (ks.map size).sum
  | [] => rfl
  | k :: ks => by simp [sizes, sizes_sum ks]
theorem size_kids : ∀ κ : Kd, size κ = 1 + sizes (kids κ)
  | .num | .opn _ | .fn _ _ | .ref _ | .made _ _ => by simp [size, kids, sizes]
theorem size_pos (κ : Kd) : 1 ≤ size κ := by rw [size_kids]; omega
theorem size_mem {x : Kd} : ∀ {ks : List Kd}, x ∈ ks → size x ≤ sizes ks
  | k :: ks, h => by
    unfold sizes
    rcases List.mem_cons.mp h with z | z
    · rw [z]; omega
    · have := size_mem z; omega
theorem len_sizes : ∀ ks : List Kd, ks.length ≤ sizes ks
  | [] => by simp
  | k :: ks => by
    have := size_pos k; have := len_sizes ks
    simp only [sizes, List.length_cons]; omega
theorem sizes_app (a b : List Kd) : sizes (a ++ b) = sizes a + sizes b := by simp [sizes_sum]
mutual
def opens : Kd → List Int
  | .num => []
  | .opn i => [i]
  | .fn a b => opens a ++ (opens b ++ [])
  | .ref a => opens a ++ []
  | .made _ ks => openss ks
def openss : List Kd → List Int
  | [] => []
  | k :: ks => opens k ++ openss ks
end
theorem openss_app : ∀ a b : List Kd, openss (a ++ b) = openss a ++ openss b
  | [], b => rfl
  | k :: a, b => by simp [openss, openss_app a b]
theorem opens_kids : ∀ κ : Kd, (∀ i, κ ≠ .opn i) → opens κ = openss (kids κ)
  | .num, _ | .fn _ _, _ | .ref _, _ | .made _ _, _ => by simp [opens, kids, openss]
  | .opn i, h => absurd rfl (h i)
mutual
theorem opens_len : ∀ κ : Kd, (opens κ).length ≤ size κ
  | .num => by simp [opens]
  | .opn i => by simp [opens, size]
  | .fn a b => by have := opens_len a; have := opens_len b; simp [opens, size]; omega
  | .ref a => by have := opens_len a; simp [opens, size]; omega
  | .made n ks => by have := openss_len ks; simp [opens, size]; omega
theorem openss_len : ∀ ks : List Kd, (openss ks).length ≤ sizes ks
  | [] => by simp [openss]
  | k :: ks => by have := opens_len k; have := openss_len ks; simp [openss, sizes]; omega
end
/-- how deep, as == counts -/
def dk (κ : Kd) : Nat := (toD κ).rk
def dks (ks : List Kd) : Nat := D.rkAll (toDs ks)
theorem dk_num : dk .num = 1 := by simp [dk, toD, D.rk, D.rkAll]
theorem dk_opn (i : Int) : dk (.opn i) = 1 := by simp [dk, toD, D.rk, D.rkAll]
theorem dk_fn (a b : Kd) : dk (.fn a b) = max (dk a) (dk b) + 1 := by simp [dk, toD, D.rk, D.rkAll]
theorem dk_ref (a : Kd) : dk (.ref a) = dk a + 1 := by simp [dk, toD, D.rk, D.rkAll]
theorem dk_made (n : String) (ks : List Kd) : dk (.made n ks) = dks ks + 2 := by simp [dk, dks, toD, D.rk, D.rkAll]
theorem dks_nil : dks [] = 0 := rfl
theorem dks_cons (k : Kd) (ks : List Kd) : dks (k :: ks) = max (dk k) (dks ks) := rfl
theorem dk_pos (κ : Kd) : 1 ≤ dk κ := by
  cases κ
  · rw [dk_num]; omega
  · rw [dk_opn]; omega
  · rw [dk_fn]; omega
  · rw [dk_ref]; omega
  · rw [dk_made]; omega
theorem dks_mem {x : Kd} : ∀ {ks : List Kd}, x ∈ ks → dk x ≤ dks ks
  | k :: ks, h => by
    rw [dks_cons]
    rcases List.mem_cons.mp h with z | z
    · rw [z]; omega
    · have := dks_mem z; omega
theorem dks_le {m : Nat} : ∀ {ks : List Kd}, (∀ x ∈ ks, dk x ≤ m) → dks ks ≤ m
  | [], _ => by rw [dks_nil]; omega
  | k :: ks, h => by
    have h1 := h k (by simp)
    have h2 := dks_le (ks := ks) fun x hx => h x (by simp [hx])
    rw [dks_cons]; omega
theorem dk_kid {x κ : Kd} (h : x ∈ kids κ) : dk x < dk κ := by
  cases κ with
  | num => simp [kids] at h
  | opn i => simp [kids] at h
  | fn a b =>
    simp only [kids, List.mem_cons, List.not_mem_nil, or_false] at h
    rw [dk_fn]
    rcases h with rfl | rfl <;> omega
  | ref a =>
    simp only [kids, List.mem_cons, List.not_mem_nil, or_false] at h
    subst h
    rw [dk_ref]; omega
  | made n ks =>
    have := dks_mem (show x ∈ ks from h)
    rw [dk_made]; omega
/-! == -/
theorem eq_tt {xs ys : List D} : D.eq (.tup xs) (.tup ys) = D.eqAll xs ys := by rw [D.eq]
theorem eqA_nn : D.eqAll [] [] = true := by rw [D.eqAll]
theorem eqA_cc {x y : D} {xs ys : List D} : D.eqAll (x :: xs) (y :: ys) = (D.eq x y && D.eqAll xs ys) := by rw [D.eqAll]
theorem eqA_nc {y : D} {ys : List D} : D.eqAll [] (y :: ys) = false := by rw [D.eqAll] <;> simp
theorem eqA_cn {y : D} {ys : List D} : D.eqAll (y :: ys) [] = false := by rw [D.eqAll] <;> simp
mutual
theorem eq_toD : ∀ a b : Kd, D.eq (toD a) (toD b) = true ↔ a = b
  | .num, b => by cases b <;> simp only [toD, eq_tt, eqA_nn, eqA_cc, eqA_nc, eqA_cn, eq_ss] <;> simp
  | .opn i, b => by cases b <;> simp only [toD, eq_tt, eqA_nn, eqA_cc, eqA_nc, eqA_cn, eq_ss, eq_ii] <;> simp
  | .fn a c, b => by
    cases b <;> simp only [toD, eq_tt, eqA_nn, eqA_cc, eqA_nc, eqA_cn, eq_ss] <;> try (simp; done)
    rename_i a' c'
    have h1 := eq_toD a a'
    have h2 := eq_toD c c'
    generalize D.eq (toD a) (toD a') = x at h1
    generalize D.eq (toD c) (toD c') = y at h2
    simp [h1, h2]
  | .ref a, b => by
    cases b <;> simp only [toD, eq_tt, eqA_nn, eqA_cc, eqA_nc, eqA_cn, eq_ss] <;> try (simp; done)
    rename_i a'
    have h1 := eq_toD a a'
    generalize D.eq (toD a) (toD a') = x at h1
    simp [h1]
  | .made n ks, b => by
    cases b <;> simp only [toD, eq_tt, eqA_nn, eqA_cc, eqA_nc, eqA_cn, eq_ss] <;> try (simp; done)
    rename_i n' ks'
    have h1 := eq_toDs ks ks'
    generalize D.eqAll (toDs ks) (toDs ks') = x at h1
    simp [h1]
theorem eq_toDs : ∀ a b : List Kd, D.eqAll (toDs a) (toDs b) = true ↔ a = b
  | [], b => by cases b <;> simp only [toDs, eqA_nn, eqA_nc] <;> simp
  | k :: ks, b => by
    cases b <;> simp only [toDs, eqA_cn, eqA_cc] <;> try (simp; done)
    rename_i k' ks'
    have h1 := eq_toD k k'
    have h2 := eq_toDs ks ks'
    generalize D.eq (toD k) (toD k') = x at h1
    generalize D.eqAll (toDs ks) (toDs ks') = y at h2
    simp [h1, h2]
end
def keq (a b : Kd) : Bool := D.eq (toD a) (toD b)
theorem keq_iff {a b : Kd} : keq a b = true ↔ a = b := eq_toD a b
theorem keq_self (a : Kd) : keq a a = true := keq_iff.mpr rfl
theorem flat_toD (κ : Kd) (st : Store) : flat1 st (toD κ) = toD κ := by cases κ <;> rfl
theorem cmp_keq {a b : Kd} {st : Store} (ha : dk a ≤ 200) (hb : dk b ≤ 200) : cmpV .eq (toD a) (toD b) st = some (keq a b) := by
  have : okEq (toD a) (toD b) = true := by
    have h1 : (toD a).rk ≤ 200 := ha
    have h2 : (toD b).rk ≤ 200 := hb
    simp [okEq, h1, h2]
  simp only [cmpV, eqB, flat_toD, this, if_true]
  rfl
theorem cmp_kne {a b : Kd} {st : Store} (ha : dk a ≤ 200) (hb : dk b ≤ 200) : cmpV .ne (toD a) (toD b) st = some (!keq a b) := by
  have := cmp_keq (st := st) ha hb
  simp only [cmpV] at this ⊢
  rw [this]; rfl
/-! filling -/
abbrev Al := List (Int × Kd)
def lk : Al → Int → Option Kd
  | [], _ => none
  | (j, k) :: r, i => if j = i then some k else lk r i
mutual
def fill (φ : Int → Option Kd) : Kd → Kd
  | .num => .num
  | .opn i => (φ i).getD (.opn i)
  | .fn a b => .fn (fill φ a) (fill φ b)
  | .ref a => .ref (fill φ a)
  | .made n ks => .made n (fills φ ks)
def fills (φ : Int → Option Kd) : List Kd → List Kd
  | [] => []
  | k :: ks => fill φ k :: fills φ ks
end
theorem fills_map (φ : Int → Option Kd) : ∀ ks : List Kd, fills φ ks = ks.map (fill φ)
  | [] => rfl
  | k :: ks => by simp [fills, fills_map φ ks]
mutual
theorem fill_congr {φ ψ : Int → Option Kd} : ∀ κ : Kd, (∀ i ∈ opens κ, (φ i).getD (.opn i) = (ψ i).getD (.opn i)) → fill φ κ = fill ψ κ
  | .num, _ => rfl
  | .opn i, h => h i (by simp [opens])
  | .fn a b, h => by simp only [fill]; rw [fill_congr a fun i hi => h i (by simp [opens, hi]), fill_congr b fun i hi => h i (by simp [opens, hi])]
  | .ref a, h => by simp only [fill]; rw [fill_congr a fun i hi => h i (by simp [opens, hi])]
  | .made n ks, h => by simp only [fill]; rw [fills_congr ks fun i hi => h i (by simpa [opens] using hi)]
theorem fills_congr {φ ψ : Int → Option Kd} : ∀ ks : List Kd, (∀ i ∈ openss ks, (φ i).getD (.opn i) = (ψ i).getD (.opn i)) → fills φ ks = fills ψ ks
  | [], _ => rfl
  | k :: ks, h => by simp only [fills]; rw [fill_congr k fun i hi => h i (by simp [openss, hi]), fills_congr ks fun i hi => h i (by simp [openss, hi])]
end
mutual
theorem fill_fill {φ ψ : Int → Option Kd} : ∀ κ : Kd, fill ψ (fill φ κ) = fill (fun i => some (fill ψ ((φ i).getD (.opn i)))) κ
  | .num => rfl
  | .opn i => by simp [fill]
  | .fn a b => by simp only [fill, fill_fill a, fill_fill b]
  | .ref a => by simp only [fill, fill_fill a]
  | .made n ks => by simp only [fill, fills_fills ks]
theorem fills_fills {φ ψ : Int → Option Kd} : ∀ ks : List Kd, fills ψ (fills φ ks) = fills (fun i => some (fill ψ ((φ i).getD (.opn i)))) ks
  | [] => rfl
  | k :: ks => by simp only [fills, fill_fill k, fills_fills ks]
end
mutual
theorem fill_id : ∀ {φ : Int → Option Kd} (κ : Kd), (∀ i ∈ opens κ, (φ i).getD (.opn i) = .opn i) → fill φ κ = κ
  | _, .num, _ => rfl
  | _, .opn i, h => h i (by simp [opens])
  | _, .fn a b, h => by simp only [fill]; rw [fill_id a fun i hi => h i (by simp [opens, hi]), fill_id b fun i hi => h i (by simp [opens, hi])]
  | _, .ref a, h => by simp only [fill]; rw [fill_id a fun i hi => h i (by simp [opens, hi])]
  | _, .made n ks, h => by simp only [fill]; rw [fills_id ks fun i hi => h i (by simpa [opens] using hi)]
theorem fills_id : ∀ {φ : Int → Option Kd} (ks : List Kd), (∀ i ∈ openss ks, (φ i).getD (.opn i) = .opn i) → fills φ ks = ks
  | _, [], _ => rfl
  | _, k :: ks, h => by simp only [fills]; rw [fill_id k fun i hi => h i (by simp [openss, hi]), fills_id ks fun i hi => h i (by simp [openss, hi])]
end
mutual
/-- what fills agrees where the filled are one -/
theorem fill_inj {φ ψ : Int → Option Kd} : ∀ κ : Kd, fill φ κ = fill ψ κ → ∀ i ∈ opens κ, (φ i).getD (.opn i) = (ψ i).getD (.opn i)
  | .num, _, i, hi => by simp [opens] at hi
  | .opn j, h, i, hi => by
    simp only [opens, List.mem_singleton] at hi
    subst hi; exact h
  | .fn a b, h, i, hi => by
    simp only [fill, Kd.fn.injEq] at h
    simp only [opens, List.append_nil, List.mem_append] at hi
    rcases hi with hi | hi
    · exact fill_inj a h.1 i hi
    · exact fill_inj b h.2 i hi
  | .ref a, h, i, hi => by
    simp only [fill, Kd.ref.injEq] at h
    simp only [opens, List.append_nil] at hi
    exact fill_inj a h i hi
  | .made n ks, h, i, hi => by
    simp only [fill, Kd.made.injEq, true_and] at h
    exact fills_inj ks h i (by simpa [opens] using hi)
theorem fills_inj {φ ψ : Int → Option Kd} : ∀ ks : List Kd, fills φ ks = fills ψ ks → ∀ i ∈ openss ks, (φ i).getD (.opn i) = (ψ i).getD (.opn i)
  | [], _, i, hi => by simp [openss] at hi
  | k :: ks, h, i, hi => by
    simp only [fills, List.cons.injEq] at h
    simp only [openss, List.mem_append] at hi
    rcases hi with hi | hi
    · exact fill_inj k h.1 i hi
    · exact fills_inj ks h.2 i hi
end
/-! matching -/
mutual
def mch : Kd → Kd → Al → Option Al
  | .opn i, o, l => match lk l i with
    | none => some (l ++ [(i, o)])
    | some k => if keq k o then some l else none
  | .num, .num, l => some l
  | .fn a b, .fn c d, l => (mch a c l).bind fun l => mch b d l
  | .ref a, .ref c, l => mch a c l
  | .made n ks, .made n' os, l => if n = n' then mchs ks os l else none
  | _, _, _ => none
def mchs : List Kd → List Kd → Al → Option Al
  | [], [], l => some l
  | k :: ks, o :: os, l => (mch k o l).bind fun l => mchs ks os l
  | _, _, _ => none
end
/-- what is told is told on -/
def Sub (l l' : Al) : Prop := ∀ i k, lk l i = some k → lk l' i = some k
theorem Sub.refl {l : Al} : Sub l l := fun _ _ h => h
theorem Sub.trans {a b c : Al} (x : Sub a b) (y : Sub b c) : Sub a c := fun i k h => y i k (x i k h)
theorem lk_app {l m : Al} {i : Int} : lk (l ++ m) i = (lk l i).or (lk m i) := by
  induction l with
  | nil => rfl
  | cons p l ih =>
    obtain ⟨j, k⟩ := p
    simp only [List.cons_append, lk, ih]
    by_cases h : j = i <;> simp [h]
theorem sub_app {l m : Al} : Sub l (l ++ m) := fun i k h => by rw [lk_app, h]; rfl
def keysA (l : Al) : List Int := l.map Prod.fst
theorem lk_none {l : Al} {i : Int} : lk l i = none ↔ i ∉ keysA l := by
  induction l with
  | nil => simp [lk, keysA]
  | cons p l ih =>
    obtain ⟨j, k⟩ := p
    simp only [keysA] at ih
    by_cases h : j = i
    · simp [lk, keysA, h]
    · have : i ≠ j := fun e => h e.symm
      simp [lk, keysA, h, ih, this]
theorem lk_some {l : Al} {i : Int} (h : i ∈ keysA l) : ∃ k, lk l i = some k := by
  cases e : lk l i with
  | none => exact absurd h (lk_none.mp e)
  | some k => exact ⟨k, rfl⟩
theorem lk_mem {l : Al} {i : Int} {k : Kd} (h : lk l i = some k) : (i, k) ∈ l := by
  induction l with
  | nil => cases h
  | cons p l ih =>
    obtain ⟨j, k'⟩ := p
    simp only [lk] at h
    split at h
    · rename_i e; cases h; simp [e]
    · simp [ih h]
mutual
theorem mch_sub : ∀ (k o : Kd) (l l' : Al), mch k o l = some l' → Sub l l' ∧ keysA l' = dd (keysA l) (opens k) ∧ ∀ φ : Int → Option Kd, (∀ i κ, lk l' i = some κ → φ i = some κ) → fill φ k = o
  | .opn i, o, l, l', h => by
    simp only [mch] at h
    split at h
    · rename_i e
      cases h
      refine ⟨sub_app, ?_, fun φ hφ => ?_⟩
      · have hn := lk_none.mp e
        simp [opens, dd_cons, dd_nil, hn, keysA]
        simp [keysA] at hn
        simp [hn]
      · have := hφ i o (by rw [lk_app, e]; simp [lk])
        simp [fill, this]
    · rename_i κ e
      split at h
      · rename_i hk
        cases h
        have hm : i ∈ keysA l := by
          have := lk_mem e
          exact List.mem_map.mpr ⟨_, this, rfl⟩
        refine ⟨Sub.refl, ?_, fun φ hφ => ?_⟩
        · simp [opens, dd_cons, dd_nil, hm]
        · have := hφ i κ e
          simp [fill, this, keq_iff.mp hk]
      · cases h
  | .num, o, l, l', h => by
    cases o <;> simp [mch] at h
    subst h
    exact ⟨Sub.refl, by simp [opens, dd_nil], fun φ _ => rfl⟩
  | .fn a b, o, l, l', h => by
    cases o <;> simp [mch] at h
    rename_i c d
    obtain ⟨l1, h1, h2⟩ := Option.bind_eq_some_iff.mp h
    obtain ⟨s1, k1, f1⟩ := mch_sub a c l l1 h1
    obtain ⟨s2, k2, f2⟩ := mch_sub b d l1 l' h2
    refine ⟨s1.trans s2, by simp [opens, dd_app, k2, k1], fun φ hφ => ?_⟩
    simp only [fill]
    rw [f1 φ fun i κ e => hφ i κ (s2 i κ e), f2 φ hφ]
  | .ref a, o, l, l', h => by
    cases o <;> simp [mch] at h
    obtain ⟨s1, k1, f1⟩ := mch_sub a _ l l' h
    refine ⟨s1, by simp [opens, k1], fun φ hφ => ?_⟩
    simp only [fill]
    rw [f1 φ hφ]
  | .made n ks, o, l, l', h => by
    cases o <;> simp [mch] at h
    obtain ⟨rfl, h⟩ := h
    obtain ⟨s1, k1, f1⟩ := mchs_sub ks _ l l' h
    refine ⟨s1, by simp [opens, k1], fun φ hφ => ?_⟩
    simp only [fill]
    rw [f1 φ hφ]
theorem mchs_sub : ∀ (k o : List Kd) (l l' : Al), mchs k o l = some l' → Sub l l' ∧ keysA l' = dd (keysA l) (openss k) ∧ ∀ φ : Int → Option Kd, (∀ i κ, lk l' i = some κ → φ i = some κ) → fills φ k = o
  | [], o, l, l', h => by
    cases o <;> simp [mchs] at h
    subst h
    exact ⟨Sub.refl, by simp [openss, dd_nil], fun φ _ => rfl⟩
  | k :: ks, o, l, l', h => by
    cases o <;> simp [mchs] at h
    obtain ⟨l1, h1, h2⟩ := Option.bind_eq_some_iff.mp h
    obtain ⟨s1, k1, f1⟩ := mch_sub k _ l l1 h1
    obtain ⟨s2, k2, f2⟩ := mchs_sub ks _ l1 l' h2
    refine ⟨s1.trans s2, by simp [openss, dd_app, k2, k1], fun φ hφ => ?_⟩
    simp only [fills]
    rw [f1 φ fun i κ e => hφ i κ (s2 i κ e), f2 φ hφ]
end
/-- acc, then what of l is new, with what fills it -/
def dda (φ : Int → Option Kd) (acc : Al) : List Int → Al
  | [] => acc
  | i :: r => dda φ (if i ∈ keysA acc then acc else acc ++ [(i, (φ i).getD (.opn i))]) r
theorem dda_app {φ : Int → Option Kd} : ∀ (a b : List Int) (acc : Al), dda φ acc (a ++ b) = dda φ (dda φ acc a) b
  | [], b, acc => rfl
  | i :: a, b, acc => by simp only [List.cons_append, dda, dda_app a b]
def Agr (φ : Int → Option Kd) (l : Al) : Prop := ∀ i κ, lk l i = some κ → κ = (φ i).getD (.opn i)
theorem agr_dda {φ : Int → Option Kd} : ∀ (a : List Int) {acc : Al}, Agr φ acc → Agr φ (dda φ acc a)
  | [], acc, h => h
  | i :: a, acc, h => by
    refine agr_dda a ?_
    split
    · exact h
    · intro j κ e
      rw [lk_app] at e
      cases q : lk acc j with
      | some k => rw [q] at e; cases e; exact h j _ q
      | none =>
        rw [q] at e
        simp only [Option.none_or, lk] at e
        split at e
        · rename_i ej; cases e; rw [ej]
        · cases e
mutual
theorem mt_fill {φ : Int → Option Kd} : ∀ (k : Kd) (l : Al), Agr φ l → mch k (fill φ k) l = some (dda φ l (opens k))
  | .num, l, h => rfl
  | .opn i, l, h => by
    simp only [mch, fill, opens, dda]
    cases e : lk l i with
    | none => simp [lk_none.mp e]
    | some κ =>
      have hm : i ∈ keysA l := List.mem_map.mpr ⟨_, lk_mem e, rfl⟩
      simp [hm, h i κ e, keq_self]
  | .fn a b, l, h => by
    simp only [mch, fill, opens, List.append_nil, dda_app]
    rw [mt_fill a l h, Option.bind_some, mt_fill b _ (agr_dda _ h)]
  | .ref a, l, h => by
    simp only [mch, fill, opens, List.append_nil]
    exact mt_fill a l h
  | .made n ks, l, h => by
    simp only [mch, fill, opens, if_true]
    exact mts_fills ks l h
theorem mts_fills {φ : Int → Option Kd} : ∀ (ks : List Kd) (l : Al), Agr φ l → mchs ks (fills φ ks) l = some (dda φ l (openss ks))
  | [], l, h => rfl
  | k :: ks, l, h => by
    simp only [mchs, fills, openss, dda_app]
    rw [mt_fill k l h, Option.bind_some, mts_fills ks _ (agr_dda _ h)]
end
end Rx

set_option Elab.async false
set_option linter.all false
set_option maxRecDepth 10000
set_option maxHeartbeats 400000
set_option autoImplicit false
namespace Rx
/-! numbering -/
theorem nub_nodup : ∀ l : List Int, (nub l).Nodup
  | [] => by simp [nub]
  | x :: r => by
    simp only [nub, List.nodup_cons]
    exact ⟨by simp, (nub_nodup r).filter _⟩
def nf : List Int → Nat → Al
  | [], _ => []
  | i :: r, n => (i, .opn n) :: nf r (n + 1)
theorem nf_keys : ∀ (u : List Int) (m : Nat), keysA (nf u m) = u
  | [], _ => rfl
  | i :: r, m => by simp only [nf, keysA, List.map_cons]; have := nf_keys r (m + 1); simp only [keysA] at this; rw [this]
theorem nf_at : ∀ (u : List Int) (m : Nat) {i : Int}, i ∈ u → ∃ j : Nat, lk (nf u m) i = some (.opn ((m + j : Nat) : Int)) ∧ u[j]? = some i
  | [], m, i, h => by cases h
  | x :: r, m, i, h => by
    by_cases e : x = i
    · subst e
      exact ⟨0, by simp [nf, lk], rfl⟩
    · have h' : i ∈ r := by
        rcases List.mem_cons.mp h with z | z
        · exact absurd z.symm e
        · exact z
      obtain ⟨j, h1, h2⟩ := nf_at r (m + 1) h'
      refine ⟨j + 1, ?_, by simpa using h2⟩
      simp only [nf, lk, if_neg e, h1]
      congr 3
      omega
theorem nf_map {s : Int → Int} : ∀ (u : List Int) (m : Nat) {i : Int}, (∀ x ∈ u, s x = s i → x = i) → lk (nf (u.map s) m) (s i) = lk (nf u m) i
  | [], m, i, h => rfl
  | x :: r, m, i, h => by
    simp only [List.map_cons, nf, lk]
    by_cases e : x = i
    · subst e; simp
    · have e' : ¬ s x = s i := fun z => e (h x (by simp) z)
      rw [if_neg e, if_neg e']
      exact nf_map r (m + 1) fun y hy => h y (by simp [hy])
theorem nub_map {s : Int → Int} : ∀ (l : List Int), (∀ x ∈ l, ∀ y ∈ l, s x = s y → x = y) → nub (l.map s) = (nub l).map s
  | [], _ => rfl
  | x :: r, h => by
    have ih := nub_map r fun a ha b hb => h a (by simp [ha]) b (by simp [hb])
    simp only [List.map_cons, nub, ih, List.filter_map]
    congr 2
    refine List.filter_congr fun y hy => ?_
    have hy' : y ∈ r := mem_nub.mp hy
    simp only [Function.comp, ne_eq, decide_not]
    congr 1
    rw [Bool.eq_iff_iff]
    simp only [decide_eq_true_eq]
    exact ⟨fun e => h y (by simp [hy']) x (by simp) e, fun e => by rw [e]⟩
mutual
theorem opens_fill {φ : Int → Option Kd} : ∀ κ : Kd, opens (fill φ κ) = ((opens κ).map fun i => opens ((φ i).getD (.opn i))).flatten
  | .num => rfl
  | .opn i => by simp [fill, opens]
  | .fn a b => by simp [fill, opens, opens_fill a, opens_fill b]
  | .ref a => by simp [fill, opens, opens_fill a]
  | .made n ks => by simp [fill, opens, openss_fills ks]
theorem openss_fills {φ : Int → Option Kd} : ∀ ks : List Kd, openss (fills φ ks) = ((openss ks).map fun i => opens ((φ i).getD (.opn i))).flatten
  | [] => rfl
  | k :: ks => by simp [fills, openss, opens_fill k, openss_fills ks]
end
def numb (κ : Kd) : Kd := fill (lk (nf (nub (opens κ)) 0)) κ
theorem fill_opn {φ : Int → Option Kd} {κ : Kd} {i : Int} (h : fill φ κ = .opn i) : ∃ j, κ = .opn j ∧ (φ j).getD (.opn j) = .opn i := by
  cases κ <;> simp only [fill] at h <;> first | (cases h; done) | exact ⟨_, rfl, h⟩
theorem both_num {k o : Kd} {l l2 : Al} (h1 : mch k o [] = some l) (h2 : mch o k [] = some l2) : numb k = numb o := by
  have f1 := (mch_sub k o [] l h1).2.2 (lk l) fun _ _ h => h
  have f2 := (mch_sub o k [] l2 h2).2.2 (lk l2) fun _ _ h => h
  have ff : fill (fun i => some (fill (lk l2) ((lk l i).getD (.opn i)))) k = fill (fun _ => none) k := by
    rw [← fill_fill, f1, f2, fill_id]; intro i _; rfl
  have inj := fill_inj k ff
  simp only [Option.getD_some, Option.getD_none] at inj
  -- the renaming
  let s : Int → Int := fun i => match (lk l i).getD (.opn i) with
    | .opn j => j
    | _ => 0
  have hs : ∀ i ∈ opens k, (lk l i).getD (.opn i) = .opn (s i) ∧ (lk l2 (s i)).getD (.opn (s i)) = .opn i := by
    intro i hi
    obtain ⟨j, e1, e2⟩ := fill_opn (inj i hi)
    have : s i = j := by simp only [s, e1]
    rw [this]
    exact ⟨e1, e2⟩
  have sinj : ∀ x ∈ opens k, ∀ y ∈ opens k, s x = s y → x = y := by
    intro x hx y hy e
    have a := (hs x hx).2
    have b := (hs y hy).2
    rw [e] at a
    rw [a] at b
    cases b; rfl
  have ho : opens o = (opens k).map s := by
    rw [← f1, opens_fill]
    have : (opens k).map (fun i => opens ((lk l i).getD (.opn i))) = (opens k).map fun i => [s i] := by
      refine List.map_congr_left fun i hi => ?_
      rw [(hs i hi).1]; rfl
    rw [this]
    induction opens k with
    | nil => rfl
    | cons a r ih => simp [ih]
  have hn : nub (opens o) = (nub (opens k)).map s := by rw [ho, nub_map _ sinj]
  unfold numb
  rw [hn]
  conv => rhs; rw [← f1]
  rw [fill_fill]
  refine fill_congr k fun i hi => ?_
  rw [(hs i hi).1]
  simp only [fill, Option.getD_some]
  rw [nf_map _ _ fun x hx e => sinj x (mem_nub.mp hx) i hi e]
  obtain ⟨j, e, _⟩ := nf_at (nub (opens k)) 0 (mem_nub.mpr hi)
  rw [e]; rfl
theorem num_mt {k o : Kd} (h : numb k = numb o) : ∃ l, mch k o [] = some l := by
  let ρ : Int → Option Kd := fun j => ((nub (opens o))[j.toNat]?).map .opn
  have ho : fill ρ (numb o) = o := by
    unfold numb
    rw [fill_fill]
    refine fill_id o fun i hi => ?_
    obtain ⟨j, e1, e2⟩ := nf_at (nub (opens o)) 0 (mem_nub.mpr hi)
    rw [e1]
    simp only [Option.getD_some, fill, ρ]
    simp [e2]
  have : o = fill (fun i => some (fill ρ ((lk (nf (nub (opens k)) 0) i).getD (.opn i)))) k := by
    rw [← fill_fill]
    show o = fill ρ (numb k)
    rw [h, ho]
  exact ⟨_, by rw [this]; exact mt_fill k [] fun i κ e => by cases e⟩
theorem both_iff {k o : Kd} : ((mch k o []).isSome && (mch o k []).isSome) = keq (numb k) (numb o) := by
  rw [Bool.eq_iff_iff, keq_iff]
  simp only [Bool.and_eq_true, Option.isSome_iff_exists]
  constructor
  · rintro ⟨⟨l, h1⟩, ⟨l2, h2⟩⟩
    exact both_num h1 h2
  · intro h
    exact ⟨num_mt h, num_mt h.symm⟩
theorem dda_keys {φ : Int → Option Kd} : ∀ (a : List Int) (acc : Al), keysA (dda φ acc a) = dd (keysA acc) a
  | [], acc => by simp [dda, dd_nil]
  | i :: a, acc => by
    simp only [dda, dd_cons]
    rw [dda_keys a]
    by_cases h : i ∈ keysA acc
    · simp [h]
    · simp only [h, if_false]
      simp [keysA]
end Rx

set_option Elab.async false
set_option linter.all false
set_option maxRecDepth 10000
set_option maxHeartbeats 800000
set_option autoImplicit false
namespace k13
open Rx
def B3 (c : Cell) : Prop := ∃ a b d : Int, c = .lst [.int a, .int b, .int d]
abbrev Bx (n : Nat) (st : Store) : Prop := Box B3 n st
abbrev Ch (n : Nat) (st st' : Store) : Prop := Chg B3 n st st'
theorem sp_cell {k : Nat} {st : Store} {ns : List Int} {j : Int} (hj : 0 ≤ j) : W (callP P (k + 1) i_law_cell [.ro (ns.map D.int), .int j] st) (fun r st' => st' = st ∧ ∃ i, r = .int i) := by
  rw [callP_succ (show P[i_law_cell]? = some c_law_cell from rfl), runB_eq rfl]
  simp [c_law_cell, startD, evSs, evS, evE, evEs]
  intro h
  obtain ⟨i, e⟩ := atI_ints hj h
  simp [e]
theorem sp_mixed {k : Nat} {st : Store} {c j : Int} : W (callP P (k + 1) i_law_mixed [.int c, .int j] st) (fun r st' => st' = st ∧ ∃ i, r = .int i) := by
  rw [callP_succ (show P[i_law_mixed]? = some c_law_mixed from rfl), runB_eq rfl]
  simp [c_law_mixed, startD, evSs, evS, evE, evEs]
  omega
theorem sp_box {k : Nat} {st : Store} {ns : List Int} {j : Int} (hj : 0 ≤ j) : W (callP P (k + 2) i_law_box [.ro (ns.map D.int), .int j] st) (fun r st' => r = .loc st.length ∧ ∃ c, B3 c ∧ st' = st ++ [c]) := by
  rw [callP_succ (show P[i_law_box]? = some c_law_box from rfl), runB_eq rfl]
  simp [c_law_box, startD, evSs, evS, evE, evEs]
  refine (sp_cell hj).mono ?_
  rintro _ _ ⟨rfl, i, rfl⟩
  simp
  split
  · exact ⟨_, _, _, rfl⟩
  · exact ⟨_, _, _, rfl⟩
theorem sp_take {k : Nat} {st : Store} {n : Nat} {m : Int} (hb : Bx n st) (h0 : 0 < m) (h1 : m < 1073741824) : W (callP P (k + 2) i_law_take [.loc n, .int m] st) (fun r st' => Ch n st st' ∧ ∃ i, r = .int i ∧ 0 ≤ i ∧ i < m) := by
  rw [callP_succ (show P[i_law_take]? = some c_law_take from rfl), runB_eq rfl]
  obtain ⟨_, e, a, b, c, rfl⟩ := id hb
  simp [c_law_take, startD, evSs, evS, evE, evEs, ix_loc e, e, h0, h1, ixN, putV]
  split
  · exact ⟨Chg.set hb ⟨_, _, _, rfl⟩, Int.emod_nonneg _ (by omega), Int.emod_lt_of_pos _ h0⟩
  · have e2 : (st.set n (.lst [.int a, .int b, .int (c + 1)]))[n]? = some (.lst [.int a, .int b, .int (c + 1)]) := by simp [hb.lt]
    simp [ix_loc e2]
    refine sp_mixed.mono ?_
    rintro _ _ ⟨rfl, i, rfl⟩
    simp [h0]
    exact ⟨Chg.set hb ⟨_, _, _, rfl⟩, Int.emod_nonneg _ (by omega), Int.emod_lt_of_pos _ h0⟩
theorem sp_word {k : Nat} {st : Store} {n : Nat} (hb : Bx n st) : W (callP P (k + 3) i_law_word [.loc n] st) (fun r st' => Ch n st st' ∧ ∃ s, r = .str s ∧ s.length ≤ 6) := by
  rw [callP_succ (show P[i_law_word]? = some c_law_word from rfl), runB_eq rfl]
  simp [c_law_word, startD, evSs, evS, evE, evEs, evI, evC, meIs]
  refine (sp_take hb (by omega) (by omega)).mono ?_
  rintro _ s1 ⟨c1, i, rfl, h0, h1⟩
  simp
  refine ⟨by omega, ?_⟩
  refine W_lc (fun r acc s => Ch n st s ∧ acc.length + r.length = (1 + i).toNat ∧ Txts 1 acc) (fun _ _ _ _ => rfl) ?_ ?_ _ _ _ ⟨c1, by simp [rng_len], Txts.nil⟩
  · rintro x r acc s ⟨c2, hl, ha⟩
    simp [wipeD]
    refine (sp_take c2.box (by omega) (by omega)).mono ?_
    rintro _ s2 ⟨c3, j, rfl, g0, g1⟩
    obtain ⟨ch, e1, e2⟩ := atI_of (xs := "abcdefghijklmnopqrstuvwxyz".toList) g0 (by simpa using g1)
    rw [ix_str e1 (by decide)]
    simp only [List.length_cons] at hl
    simp
    exact ⟨by simp only [LINE]; omega, c2.trans c3, by omega, ha.app (Txts.one (by simp))⟩
  · rintro acc s ⟨c2, hl, ha⟩
    obtain ⟨ls, e1, rfl, h3⟩ := txts_of ha
    simp only [List.length_map, List.length_nil] at hl
    rw [me_join e1]
    have z1 := joinLen_le h3
    have z2 := join_len "" ls
    have z3 : ("" : String).length = 0 := rfl
    rw [z3] at z2 ⊢
    exact ⟨by simp only [LINE]; omega, c2, _, rfl, by omega⟩
theorem sp_name {k : Nat} {st : Store} {n : Nat} (hb : Bx n st) : W (callP P (k + 4) i_law_name [.loc n] st) (fun r st' => Ch n st st' ∧ ∃ s, r = .str s ∧ s.length ≤ 13) := by
  rw [callP_succ (show P[i_law_name]? = some c_law_name from rfl), runB_eq rfl]
  simp [c_law_name, startD, evSs, evS, evE, evEs]
  refine (sp_take hb (by omega) (by omega)).mono ?_
  rintro _ s1 ⟨c1, i, rfl, h0, h1⟩
  simp
  split
  · refine (sp_word c1.box).mono ?_
    rintro _ s2 ⟨c2, w, rfl, w2⟩
    have hd : ("." : String).length = 1 := rfl
    simp
    refine ⟨by simp [LINE]; omega, ?_⟩
    refine (sp_word c2.box).mono ?_
    rintro _ s3 ⟨c3, v, rfl, v2⟩
    simp
    refine ⟨by simp [LINE]; omega, (c1.trans c2).trans c3, by omega⟩
  · refine (sp_word c1.box).mono ?_
    rintro _ s2 ⟨c2, w, rfl, w2⟩
    exact ⟨c1.trans c2, w, rfl, by omega⟩
end k13

set_option Elab.async false
set_option linter.all false
set_option maxRecDepth 10000
set_option maxHeartbeats 800000
set_option autoImplicit false
namespace k13
open Rx
def Opn5 (l : List Int) : Prop := ∀ i ∈ l, 0 ≤ i ∧ i < 5
theorem Opn5.app {a b : List Int} (x : Opn5 a) (y : Opn5 b) : Opn5 (a ++ b) := fun i h => by
  rcases List.mem_append.mp h with z | z
  · exact x i z
  · exact y i z
/-- a kind that the law makes -/
def KO (m d : Nat) (κ : Kd) : Prop := size κ ≤ m ∧ dk κ ≤ d ∧ Opn5 (opens κ)
def Mk (m d : Nat) (r : D) : Prop := ∃ κ, r = toD κ ∧ KO m d κ
theorem Mk.mono {m d m1 d1 : Nat} {a : D} (h : Mk m d a) (h1 : m ≤ m1) (h2 : d ≤ d1) : Mk m1 d1 a := by
  obtain ⟨κ, rfl, s1, e1, o⟩ := h
  exact ⟨κ, rfl, by omega, by omega, o⟩
theorem mk_num {m d : Nat} (hm : 1 ≤ m) (hd : 1 ≤ d) : Mk m d (.tup [.str "num"]) := ⟨.num, rfl, hm, by rw [dk_num]; omega, fun i h => by simp [opens] at h⟩
theorem mk_opn {m d : Nat} {i : Int} (hm : 1 ≤ m) (hd : 1 ≤ d) (h0 : 0 ≤ i) (h1 : i < 5) : Mk m d (.tup [.str "open", .int i]) := ⟨.opn i, rfl, hm, by rw [dk_opn]; omega, fun j h => by simp [opens] at h; omega⟩
theorem mk_fn {m d m1 d1 : Nat} {a b : D} (h1 : Mk m d a) (h2 : Mk m1 d1 b) : Mk (1 + m + m1) (max d d1 + 1) (.tup [.str "fn", a, b]) := by
  obtain ⟨κ, rfl, s1, e1, o1⟩ := h1
  obtain ⟨μ, rfl, s2, e2, o2⟩ := h2
  exact ⟨.fn κ μ, rfl, by simp only [size]; omega, by rw [dk_fn]; omega, by simp only [opens, List.append_nil]; exact o1.app o2⟩
theorem mk_ref {m d : Nat} {a : D} (h1 : Mk m d a) : Mk (1 + m) (d + 1) (.tup [.str "ref", a]) := by
  obtain ⟨κ, rfl, s1, e1, o1⟩ := h1
  exact ⟨.ref κ, rfl, by simp only [size]; omega, by rw [dk_ref]; omega, by simp only [opens, List.append_nil]; exact o1⟩
theorem mks_of {m d : Nat} : ∀ {l : List D}, (∀ x ∈ l, Mk m d x) → ∃ ks : List Kd, l = toDs ks ∧ sizes ks ≤ l.length * m ∧ dks ks ≤ d ∧ Opn5 (openss ks)
  | [], _ => ⟨[], rfl, by simp [sizes], by rw [dks_nil]; omega, fun i h => by simp [openss] at h⟩
  | x :: l, h => by
    obtain ⟨κ, rfl, s1, e1, o1⟩ := h x (by simp)
    obtain ⟨ks, rfl, h2, h3, h4⟩ := mks_of (l := l) fun y hy => h y (by simp [hy])
    exact ⟨κ :: ks, rfl, by simp only [sizes, List.length_cons, Nat.add_mul, Nat.one_mul]; omega, by rw [dks_cons]; omega, by simp only [openss]; exact o1.app h4⟩
theorem mk_made {m d : Nat} {s : String} {l : List D} (h : ∀ x ∈ l, Mk m d x) : Mk (1 + l.length * m) (d + 2) (.tup [.str "made", .str s, .tup l]) := by
  obtain ⟨ks, rfl, h2, h3, h4⟩ := mks_of h
  exact ⟨.made s ks, rfl, by simp only [size]; omega, by rw [dk_made]; omega, by simp only [opens]; exact h4⟩
/-- three names -/
def Nms (v : D) : Prop := ∃ a b c : String, v = .lst [.str a, .str b, .str c]
theorem sp_kind : ∀ (t k : Nat) {st : Store} {n : Nat} {v : D} {most : Int}, Bx n st → Nms v → 0 < most → most ≤ 5 →
    W (callP P (k + t + 3) i_law_kind [.loc n, v, .int most, .int (t : Int)] st) (fun r st' => Ch n st st' ∧ Mk (2 ^ (t + 1) - 1) (2 * t + 1) r) := by
  intro t
  induction t with
  | zero =>
    intro k st n v most hb hv h0 h1
    obtain ⟨a, b, c, rfl⟩ := hv
    rw [callP_succ (show P[i_law_kind]? = some c_law_kind from rfl), runB_eq rfl]
    simp [c_law_kind, startD, evSs, evS, evE, evEs, evOr, evAnd, evI]
    refine (sp_take hb (by omega) (by omega)).mono ?_
    rintro _ s1 ⟨c1, i, rfl, g0, g1⟩
    simp
    refine (sp_take c1.box (by omega) (by omega)).mono ?_
    rintro _ s2 ⟨c2, j, rfl, g2, g3⟩
    have : i % 2 = 0 ∨ i % 2 = 1 := by omega
    rcases this with e | e
    · simp [e]
      exact ⟨c1.trans c2, mk_num (by omega) (by omega)⟩
    · simp [e]
      exact ⟨c1.trans c2, mk_opn (by omega) (by omega) g2 (by omega)⟩
  | succ t ih =>
    intro k st n v most hb hv h0 h1
    obtain ⟨a, b, c, rfl⟩ := hv
    rw [show k + (t + 1) + 3 = (k + t + 3) + 1 by omega]
    rw [callP_succ (show P[i_law_kind]? = some c_law_kind from rfl), runB_eq rfl]
    have et : ¬ ((t : Int) + 1 < 1) := by omega
    have et2 : (t : Int) + 1 - 1 = t := by omega
    have p1 : 2 ^ (t + 1 + 1) = 2 * 2 ^ (t + 1) := by rw [Nat.pow_succ]; omega
    have p2 : 2 ≤ 2 ^ (t + 1) := by have := Nat.one_le_two_pow (n := t); rw [Nat.pow_succ]; omega
    simp [c_law_kind, startD, evSs, evS, evE, evEs, evOr, evAnd, evI, evC, et, et2]
    refine (sp_take (k := k + t + 1) hb (by omega) (by omega)).mono ?_
    rintro _ s1 ⟨c1, i, rfl, g0, g1⟩
    simp
    have ks : ∀ (s : Store), Bx n s → W (callP P (k + t + 3) i_law_kind [.loc n, .lst [.str a, .str b, .str c], .int most, .int (t : Int)] s) (fun r st' => Ch n s st' ∧ Mk (2 ^ (t + 1) - 1) (2 * t + 1) r) := fun s hs => ih k hs ⟨a, b, c, rfl⟩ h0 h1
    have tk : ∀ {s : Store} {m : Int}, Bx n s → 0 < m → m < 1073741824 → W (callP P (k + t + 3) i_law_take [.loc n, .int m] s) (fun r st' => Ch n s st' ∧ ∃ i, r = .int i ∧ 0 ≤ i ∧ i < m) := fun hb h0 h1 => sp_take (k := k + t + 1) hb h0 h1
    split
    · refine (tk c1.box (by omega) (by omega)).mono ?_
      rintro _ s2 ⟨c2, j, rfl, g2, g3⟩
      have : i % 2 = 0 ∨ i % 2 = 1 := by omega
      rcases this with e | e
      · simp [e]
        exact ⟨c1.trans c2, mk_num (by omega) (by omega)⟩
      · simp [e]
        exact ⟨c1.trans c2, mk_opn (by omega) (by omega) g2 (by omega)⟩
    split
    · refine (tk c1.box (by omega) (by omega)).mono ?_
      rintro _ s2 ⟨c2, j, rfl, g2, g3⟩
      exact ⟨c1.trans c2, mk_opn (by omega) (by omega) g2 (by omega)⟩
    split
    · refine (ks _ c1.box).mono ?_
      rintro x s2 ⟨c2, m2⟩
      refine (ks _ c2.box).mono ?_
      rintro y s3 ⟨c3, m3⟩
      exact ⟨(c1.trans c2).trans c3, (mk_fn m2 m3).mono (by omega) (by omega)⟩
    split
    · refine (ks _ c1.box).mono ?_
      rintro x s2 ⟨c2, m2⟩
      exact ⟨c1.trans c2, (mk_ref m2).mono (by omega) (by omega)⟩
    · refine (tk c1.box (by omega) (by omega)).mono ?_
      rintro _ s2 ⟨c2, j, rfl, g2, g3⟩
      obtain ⟨w, e1, e2⟩ := atI_of (xs := [D.str a, .str b, .str c]) g2 (by simpa using g3)
      have hw : ∃ s, w = .str s := by
        simp at e2
        rcases e2 with rfl | rfl | rfl <;> exact ⟨_, rfl⟩
      obtain ⟨s, rfl⟩ := hw
      rw [ix_lst, e1]
      simp
      refine (tk c2.box (by omega) (by omega)).mono ?_
      rintro _ s3 ⟨c3, l, rfl, g4, g5⟩
      have g6 : -4611686018427387904 ≤ l ∧ l < 4611686018427387904 := by omega
      simp [g6]
      refine W_lc (fun r acc s => Ch n st s ∧ acc.length + r.length ≤ 2 ∧ ∀ x ∈ acc, Mk (2 ^ (t + 1) - 1) (2 * t + 1) x) (fun _ _ _ _ => rfl) ?_ ?_ _ _ _ ?_
      · rintro x r acc s4 ⟨c4, hl, hm⟩
        simp only [List.length_cons] at hl
        simp [wipeD, et2]
        refine (ks _ c4.box).mono ?_
        rintro y s5 ⟨c5, m5⟩
        refine ⟨by simp only [LINE]; omega, c4.trans c5, by omega, fun z hz => ?_⟩
        rcases hz with hz | hz
        · exact hm z hz
        · rw [hz]; exact m5
      · rintro acc s4 ⟨c4, hl, hm⟩
        simp only [List.length_nil] at hl
        refine ⟨c4, (mk_made hm).mono ?_ (by omega)⟩
        have : acc.length * (2 ^ (t + 1) - 1) ≤ 2 * (2 ^ (t + 1) - 1) := Nat.mul_le_mul_right _ (by omega)
        omega
      · exact ⟨(c1.trans c2).trans c3, by simp [rng_len]; omega, by simp⟩
theorem sp_deep {k : Nat} {st : Store} {n : Nat} {v : D} (hb : Bx n st) (hv : Nms v) : W (callP P (k + 3) i_law_deep [.loc n, v, .int 4] st) (fun r st' => Ch n st st' ∧ Mk 300 86 r) := by
  obtain ⟨a, b, c, rfl⟩ := hv
  rw [callP_succ (show P[i_law_deep]? = some c_law_deep from rfl), runB_eq rfl]
  simp [c_law_deep, startD, evSs, evS, evE, evEs, evOr, evAnd, evI, evC]
  refine (sp_take hb (by omega) (by omega)).mono ?_
  rintro _ s1 ⟨c1, i, rfl, g0, g1⟩
  refine W_for (fun r ρ s => Ch n st s ∧ r.length ≤ 42 ∧ ∃ κ o p, ρ = [some (.loc n), some (.lst [.str a, .str b, .str c]), some (.int 4), some κ, some (.tup [.str "fn", .tup [.str "num"], .tup [.str "num"]]), o, p] ∧
    Mk (1 + 4 * (42 - r.length)) (2 + 2 * (42 - r.length)) κ) (fun _ _ _ _ => rfl) ?_ ?_ _ _ _ ⟨c1, by simp [rng_len], _, _, _, rfl, mk_opn (by omega) (by omega) g0 (by omega)⟩
  · rintro x r ρ s ⟨c2, hr, κ, o, p, rfl, hm⟩
    simp only [List.length_cons] at hr hm
    have hb2 : Mk 3 2 (.tup [.str "fn", .tup [.str "num"], .tup [.str "num"]]) := (mk_fn (mk_num (m := 1) (d := 1) (by omega) (by omega)) (mk_num (m := 1) (d := 1) (by omega) (by omega))).mono (by omega) (by omega)
    simp
    refine (sp_take c2.box (by omega) (by omega)).mono ?_
    rintro _ s2 ⟨c3, j, rfl, g2, g3⟩
    simp
    have : j = 0 ∨ j = 1 ∨ j = 2 ∨ j = 3 := by omega
    have a1 : 1 + 4 * (42 - (r.length + 1)) + 4 = 1 + 4 * (42 - r.length) := by omega
    rcases this with rfl | rfl | rfl | rfl
    · simp
      exact ⟨c2.trans c3, by omega, (mk_fn hm hb2).mono (by omega) (by omega)⟩
    · simp
      exact ⟨c2.trans c3, by omega, (mk_fn hb2 hm).mono (by omega) (by omega)⟩
    · simp
      exact ⟨c2.trans c3, by omega, (mk_ref hm).mono (by omega) (by omega)⟩
    · simp
      refine ⟨c2.trans c3, by omega, ?_⟩
      obtain ⟨μ, rfl, z1, e1, o1⟩ := hm
      obtain ⟨ν, rfl', z2, e2, o2⟩ := hb2
      rw [rfl']
      refine ⟨.made a [ν, μ], by simp [toD, toDs], by simp only [size, sizes]; omega, by rw [dk_made, dks_cons, dks_cons, dks_nil]; omega, by simp only [opens, openss, List.append_nil]; exact o2.app o1⟩
  · rintro ρ s ⟨c2, hr, κ, o, p, rfl, hm⟩
    simp
    exact ⟨c2, hm.mono (by simp) (by simp)⟩
end k13

set_option Elab.async false
set_option linter.all false
set_option maxRecDepth 10000
set_option maxHeartbeats 800000
set_option autoImplicit false
namespace Rx
theorem cut_2' {α : Type} {x : α} {r : List α} : cut (x :: r) none (some 1) = [x] := by simp [cut, sIx]
theorem nodup_len {m : List Int} : ∀ {l : List Int}, l.Nodup → (∀ x ∈ l, x ∈ m) → l.length ≤ m.length := by
  intro l
  induction l generalizing m with
  | nil => intro _ _; simp
  | cons x l ih =>
    intro hn hs
    rw [List.nodup_cons] at hn
    have hx := hs x (by simp)
    have := ih (m := m.erase x) hn.2 fun y hy => (List.mem_erase_of_ne (fun e : y = x => hn.1 (by rw [← e]; exact hy))).mpr (hs y (by simp [hy]))
    rw [List.length_erase_of_mem hx] at this
    have h1 := List.length_pos_of_mem hx
    simp only [List.length_cons]; omega
def intP (p : Int → Bool) : D → Bool
  | .int i => p i
  | _ => false
theorem filter_intP (p : Int → Bool) (l : List Int) : (Ints l).filter (intP p) = Ints (l.filter p) := by
  induction l with
  | nil => rfl
  | cons i l ih =>
    simp only [Ints, List.map_cons] at ih ⊢
    by_cases h : p i = true <;> simp [intP, h, ih]
/-- a dict of kinds -/
def dC (l : Al) : Cell := .dct (l.map fun p => Ky.i p.1) (l.map fun p => toD p.2)
theorem look_dC (i : Int) : ∀ l : Al, lookK (l.map fun p => Ky.i p.1) (l.map fun p => toD p.2) (.i i) = (lk l i).map toD
  | [] => rfl
  | (j, k) :: l => by
    simp only [List.map_cons, lookK, lk, look_dC i l, Ky.i.injEq]
    split <;> rfl
theorem get_dC {m : Bool} {n : Nat} {l : Al} {i : Int} {d : D} {st : Store} (h : st[n]? = some (dC l)) : meV .get2 m (.loc n) [.int i, d] st = .ok (((lk l i).map toD).getD d) st := by
  simp only [meV, dctOf, h, dC, kyOf, look_dC]
theorem getis_dC {n : Nat} {l : Al} {st : Store} (h : st[n]? = some (dC l)) : meIs st .get2 (.loc n) = true := by
  simp only [meIs, dctOf, h, dC]; rfl
theorem in_dC {n : Nat} {l : Al} {i : Int} {st : Store} (h : st[n]? = some (dC l)) : cmpV .isin (.int i) (.loc n) st = some (decide (i ∈ keysA l)) := by
  show inB (.int i) (.loc n) st = _
  have e : inB (.int i) (.loc n) st = some (lookK (l.map fun p => Ky.i p.1) (l.map fun p => toD p.2) (.i i)).isSome := by
    simp only [inB, seqOf, h, dC, dctOf, kyOf]
  rw [e, look_dC]
  congr 1
  rw [Bool.eq_iff_iff, decide_eq_true_eq, Option.isSome_map]
  constructor
  · intro hs
    obtain ⟨k, hk⟩ := Option.isSome_iff_exists.mp hs
    exact List.mem_map.mpr ⟨_, lk_mem hk, rfl⟩
  · intro hm
    obtain ⟨k, hk⟩ := lk_some hm
    rw [hk]; rfl
theorem ix_dC {n : Nat} {l : Al} {i : Int} {k : Kd} {st : Store} (h : st[n]? = some (dC l)) (hk : lk l i = some k) : ixV (.loc n) (.int i) st = some (toD k) := by
  have e : ixV (.loc n) (.int i) st = lookK (l.map fun p => Ky.i p.1) (l.map fun p => toD p.2) (.i i) := by
    simp only [ixV, seqOf, h, dC, dctOf, kyOf]
  rw [e, look_dC, hk]; rfl
theorem put_dC {n : Nat} {l : Al} {i : Int} {k : Kd} {st : Store} (h : st[n]? = some (dC l)) (hl : l.length < LINE) (hn : i ∉ keysA l) : putV (.loc n) (.int i) (toD k) st = .ok () (st.set n (dC (l ++ [(i, k)]))) := by
  have hm : Ky.i i ∉ l.map fun p => Ky.i p.1 := fun z => by
    obtain ⟨p, hp, e⟩ := List.mem_map.mp z
    cases e
    exact hn (List.mem_map.mpr ⟨p, hp, rfl⟩)
  have e : putV (.loc n) (.int i) (toD k) st = .ok () (st.set n (.dct (putD (l.map fun p => Ky.i p.1) (l.map fun p => toD p.2) (.i i) (toD k)).1 (putD (l.map fun p => Ky.i p.1) (l.map fun p => toD p.2) (.i i) (toD k)).2)) := by
    simp only [putV, h, dC, kyOf, List.length_map, if_pos hl]
  rw [e]
  simp only [putD, if_neg hm, dC, List.map_append, List.map_cons, List.map_nil]
theorem setd_dC {m : Bool} {n : Nat} {l : Al} {i : Int} {k : Kd} {st : Store} (h : st[n]? = some (dC l)) (hl : l.length < LINE) : meV .setdef m (.loc n) [.int i, toD k] st = match lk l i with
    | some κ => .ok (toD κ) st
    | none => .ok (toD k) (st.set n (dC (l ++ [(i, k)]))) := by
  have e : meV .setdef m (.loc n) [.int i, toD k] st = (match lookK (l.map fun p => Ky.i p.1) (l.map fun p => toD p.2) (.i i) with
      | some v => .ok v st
      | none => .ok (toD k) (st.set n (.dct ((l.map fun p => Ky.i p.1) ++ [.i i]) ((l.map fun p => toD p.2) ++ [toD k])))) := by
    simp only [meV, h, dC, kyOf, List.length_map, if_pos hl]
    try (cases lookK (l.map fun p => Ky.i p.1) (l.map fun p => toD p.2) (.i i) <;> rfl)
  rw [e, look_dC]
  cases lk l i with
  | none => simp [dC]
  | some κ => rfl
theorem setdis_dC {n : Nat} {l : Al} {st : Store} (h : st[n]? = some (dC l)) : meIs st .setdef (.loc n) = true := by
  simp only [meIs, h, dC]
/-- == of dicts of kinds -/
def deq (l m : Al) : Bool := l.length == m.length && l.all fun p => match lk m p.1 with
  | some k => keq p.2 k
  | none => false
theorem dctAll_dC (m : Al) : ∀ l : Al, dctAll (l.map fun p => Ky.i p.1) (l.map fun p => toD p.2) (m.map fun p => Ky.i p.1) (m.map fun p => toD p.2) = l.all fun p => match lk m p.1 with
    | some k => keq p.2 k
    | none => false
  | [] => rfl
  | (j, k) :: l => by
    simp only [List.map_cons, dctAll, List.all_cons, look_dC, dctAll_dC m l]
    cases lk m j <;> rfl
theorem rk_dC {n : Nat} : ∀ {l : Al}, (∀ p ∈ l, dk p.2 ≤ n) → D.rkAll (l.map fun p => toD p.2) ≤ n
  | [], _ => by simp [D.rkAll]
  | (j, k) :: l, h => by
    have h1 := h (j, k) (by simp)
    have h2 := rk_dC (l := l) fun p hp => h p (by simp [hp])
    simp only [List.map_cons, D.rkAll]
    simp only [dk] at h1
    omega
theorem eqB_dC {a b : Nat} {l m : Al} {st : Store} (ha : st[a]? = some (dC l)) (hb : st[b]? = some (dC m)) (hl : ∀ p ∈ l, dk p.2 ≤ 150) (hm : ∀ p ∈ m, dk p.2 ≤ 150) : eqB (.loc a) (.loc b) st = some (deq l m) := by
  have f : ∀ n l, st[n]? = some (dC l) → flat1 st (.loc n) = .loc n := fun n l h => by simp only [flat1, h, dC]
  have ok : okEq (.loc a) (.loc b) = false := by simp [okEq, scal, cmpb, isNil, D.rk]
  simp only [eqB, f a l ha, f b m hb, ok]
  simp only [dctOf, ha, hb, dC, rk_dC hl, rk_dC hm]
  simp only [dctEq, dctAll_dC, List.length_map, deq]
  simp
theorem deq_self {l : Al} (h : (keysA l).Nodup) : deq l l = true := by
  simp only [deq, beq_self_eq_true, Bool.true_and, List.all_eq_true]
  have : ∀ (l m : Al), (keysA m).Nodup → (∀ p ∈ l, p ∈ m) → ∀ p ∈ l, lk m p.1 = some p.2 := by
    intro l m hn hs p hp
    have hm := hs p hp
    clear hs hp
    induction m with
    | nil => cases hm
    | cons q m ih =>
      obtain ⟨j, k⟩ := q
      simp only [keysA, List.map_cons, List.nodup_cons] at hn
      rcases List.mem_cons.mp hm with z | z
      · subst z; simp [lk]
      · have hne : ¬ j = p.1 := fun e => hn.1 (e ▸ List.mem_map.mpr ⟨p, z, rfl⟩)
        simp only [lk, if_neg hne]
        exact ih hn.2 z
  intro p hp
  rw [this l l h (fun _ h => h) p hp]
  exact keq_self _
end Rx
namespace k13
open Rx
theorem sp_within {k : Nat} {st : Store} {κ : Kd} : W (callP P (k + 1) i_within [toD κ] st) (fun v st' => st' = st ∧ v = .tup ((kids κ).map toD)) := by
  rw [callP_succ (show P[i_within]? = some c_within from rfl), runB_eq rfl]
  cases κ <;> simp [toD, kids, c_within, startD, evSs, evS, evE, evEs, evOr, evO, sliV, cut_1, toDs_map]
theorem sp_opens_in : ∀ (k : Nat) (κ : Kd) (st : Store), dk κ ≤ k → size κ ≤ 100000 → W (callP P (k + 2) i_opens_in [toD κ] st) (fun v st' => Ext st st' ∧ v = .tup (Ints (nub (opens κ)))) := by
  intro k
  induction k with
  | zero => intro κ st h; have := dk_pos κ; omega
  | succ k ih =>
    intro κ st h hs
    rw [callP_succ (show P[i_opens_in]? = some c_opens_in from rfl), runB_eq rfl]
    by_cases ho : ∃ i, κ = .opn i
    · obtain ⟨i, rfl⟩ := ho
      simp [toD, c_opens_in, startD, evSs, evS, evE, evEs, evI, evC, opens, lstOf, Ints, Ext.refl, LINE, nub]
    · have ho : ∀ i, κ ≠ .opn i := fun i e => ho ⟨i, e⟩
      have hd : ∃ s r, toD κ = .tup (.str s :: r) ∧ s ≠ "open" := by
        cases κ <;> first | exact absurd rfl (ho _) | exact ⟨_, _, rfl, by decide⟩
      obtain ⟨t, r, e1, e2⟩ := hd
      have hk := size_kids κ
      have hl := len_sizes (kids κ)
      have hol := openss_len (kids κ)
      rw [opens_kids κ ho]
      have hw := sp_within (k := k + 1) (st := st ++ [.lst []]) (κ := κ)
      rw [e1] at hw ⊢
      simp [c_opens_in, startD, evSs, evS, evE, evEs, evI, evC, e2, LINE]
      refine hw.mono ?_
      rintro _ _ ⟨rfl, rfl⟩
      simp [itOf, wlkL]
      refine W_forA (fun ds ρ s => (∃ o p, ρ = [some (.tup (.str t :: r)), some (.loc st.length), o, p]) ∧ Ext st s ∧ s[st.length]? = some (.lst (Ints (nub (openss ds))))) toD
        ⟨⟨_, _, rfl⟩, Ext.app, by simp [openss, Ints, nub]⟩ (fun ds ρ s hi => rfl) ?_ ?_
      · rintro ds a ts hdt ρ s ⟨⟨o, p, rfl⟩, r3, r4⟩
        have ha : a ∈ kids κ := by rw [hdt]; simp
        have hz : size a + sizes ds ≤ sizes (kids κ) := by rw [hdt, sizes_app]; simp only [sizes]; omega
        have l1 := openss_len ds
        have l2 := opens_len a
        have l3 := nub_len (openss ds)
        have l4 := nub_len (opens a)
        simp [ext_is r4]
        refine (ih a s (by have := dk_kid ha; omega) (by omega)).mono ?_
        rintro v s' ⟨x1, rfl⟩
        simp [itOf]
        refine W_filter (intP fun i => !(nub (openss ds)).contains i) rfl (by simp [Ints, LINE]; omega) ?_ ?_
        · intro x hx
          obtain ⟨i, hi, rfl⟩ := List.mem_map.mp hx
          simp [wipeD]
          rw [notin_of (inB_loc (x1 _ _ r4))]
          simp [intP]
        · have hn : st.length < s'.length := (List.getElem?_eq_some_iff.mp (x1 _ _ r4)).1
          have l5 := List.length_filter_le (fun i => !(nub (openss ds)).contains i) (nub (opens a))
          rw [filter_intP]
          rw [ext_loc (x1 _ _ r4) rfl]
          refine ⟨by simp only [Ints, List.length_map, LINE]; omega, ?_⟩
          simp [hn]
          refine ⟨(r3.trans x1).set (Nat.le_refl _), ?_⟩
          rw [openss_app, nub_app]
          simp [Ints, openss]
      · rintro ρ s ⟨⟨o, p, rfl⟩, r3, r4⟩
        simp [r3, tup_loc r4]
/-- the same head, other parts -/
def reb : Kd → List Kd → Kd
  | .fn _ _, [a, b] => .fn a b
  | .ref _, [a] => .ref a
  | .made n _, ks => .made n ks
  | κ, _ => κ
theorem sp_with {k : Nat} {st : Store} {κ : Kd} {ks : List Kd} {v : D} (hv : lstOf st v = some (ks.map toD)) (hl : ks.length = (kids κ).length) (hn : ∀ i, κ ≠ .opn i) (hz : ks.length ≤ 100000) : W (callP P (k + 1) i_with_within [toD κ, v] st) (fun r st' => st' = st ∧ r = toD (reb κ ks)) := by
  have ht : ∀ m, biV .tuple m [v] st = .ok (.tup (ks.map toD)) st := fun m => by
    cases v <;> first | (cases hv; done) | (cases hv; rfl) | skip
    rename_i n
    simp only [lstOf] at hv
    split at hv
    · rename_i q; cases hv; exact tup_loc q
    · cases hv
  rw [callP_succ (show P[i_with_within]? = some c_with_within from rfl), runB_eq rfl]
  have hz' : ks.length + 1 ≤ LINE := by simp only [LINE]; omega
  have hz2 : 1 + ks.length ≤ LINE := by simp only [LINE]; omega
  cases κ with
  | opn i => exact absurd rfl (hn i)
  | num =>
    simp only [kids, List.length_nil, List.length_eq_zero_iff] at hl
    subst hl
    simp [toD, c_with_within, startD, evSs, evS, evE, evEs, ht, evO, sliV, cut_2', reb]
  | made n os => simp [toD, c_with_within, startD, evSs, evS, evE, evEs, ht, reb, toDs_map]
  | fn a b =>
    obtain ⟨c, d, rfl⟩ : ∃ c d, ks = [c, d] := by
      rcases ks with _ | ⟨c, _ | ⟨d, _ | ⟨e, r⟩⟩⟩ <;> simp [kids] at hl
      exact ⟨c, d, rfl⟩
    simp [toD, c_with_within, startD, evSs, evS, evE, evEs, ht, evO, sliV, cut_2', reb]
  | ref a =>
    obtain ⟨c, rfl⟩ : ∃ c, ks = [c] := by
      rcases ks with _ | ⟨c, _ | ⟨d, r⟩⟩ <;> simp [kids] at hl
      exact ⟨c, rfl⟩
    simp [toD, c_with_within, startD, evSs, evS, evE, evEs, ht, evO, sliV, cut_2', reb]
theorem reb_fill (φ : Int → Option Kd) : ∀ κ : Kd, (∀ i, κ ≠ .opn i) → reb κ ((kids κ).map (fill φ)) = fill φ κ
  | .num, _ | .fn _ _, _ | .ref _, _ => rfl
  | .made n ks, _ => by simp [reb, kids, fill, fills_map]
  | .opn i, h => absurd rfl (h i)
theorem sp_filled : ∀ (k : Nat) (κ : Kd) (l : Al) (n : Nat) (st : Store), dk κ ≤ k → size κ ≤ 100000 → st[n]? = some (dC l) → W (callP P (k + 2) i_filled [toD κ, .loc n] st) (fun v st' => st' = st ∧ v = toD (fill (lk l) κ)) := by
  intro k
  induction k with
  | zero => intro κ l n st h; have := dk_pos κ; omega
  | succ k ih =>
    intro κ l n st h hs hn
    rw [callP_succ (show P[i_filled]? = some c_filled from rfl), runB_eq rfl]
    by_cases ho : ∃ i, κ = .opn i
    · obtain ⟨i, rfl⟩ := ho
      simp [toD, c_filled, startD, evSs, evS, evE, evEs, getis_dC hn, get_dC hn, fill]
      cases lk l i <;> rfl
    · have ho : ∀ i, κ ≠ .opn i := fun i e => ho ⟨i, e⟩
      by_cases hm : κ = .num
      · subst hm
        simp [toD, c_filled, startD, evSs, evS, evE, evEs, fill]
      have hd : ∃ s r, toD κ = .tup (.str s :: r) ∧ s ≠ "open" ∧ s ≠ "num" := by
        cases κ <;> first | exact absurd rfl (ho _) | exact absurd rfl hm | exact ⟨_, _, rfl, by decide, by decide⟩
      obtain ⟨t, r, e1, e2, e3⟩ := hd
      have hk := size_kids κ
      have hl := len_sizes (kids κ)
      have hw := sp_within (k := k + 1) (st := st) (κ := κ)
      have hz := fun (ks : List Kd) (hks : ks.length = (kids κ).length) (h100 : ks.length ≤ 100000) => sp_with (k := k + 1) (st := st) (κ := κ) (ks := ks) (v := .lst (ks.map toD)) rfl hks ho h100
      rw [e1] at hw hz ⊢
      simp [c_filled, startD, evSs, evS, evE, evEs, evI, evC, e2, e3]
      refine hw.mono ?_
      rintro _ _ ⟨rfl, rfl⟩
      simp [itOf]
      rename_i s0
      refine W_mapR (fun s => s = s0) toD (fun κ => toD (fill (lk l) κ)) rfl (fun _ _ => rfl) (by simp [LINE]; omega) ?_ ?_
      · rintro a ha s rfl
        simp [wipeD]
        have := size_mem ha
        refine (ih a l n _ (by have := dk_kid ha; omega) (by omega) hn).mono ?_
        rintro _ _ ⟨rfl, rfl⟩
        simp
      · rintro s rfl
        have := hz ((kids κ).map (fill (lk l))) (by simp) (by simp; omega)
        rw [reb_fill _ κ ho, List.map_map] at this
        exact this
end k13

set_option Elab.async false
set_option linter.all false
set_option maxRecDepth 10000
set_option maxHeartbeats 1600000
set_option autoImplicit false
namespace Rx
def hdA : Kd → Kd → Bool
  | .num, .num | .opn _, .opn _ | .fn _ _, .fn _ _ | .ref _, .ref _ => true
  | .made n ks, .made n' os => n == n' && ks.length == os.length
  | _, _ => false
theorem mts_len : ∀ {ks os : List Kd} {l : Al}, ks.length ≠ os.length → mchs ks os l = none
  | [], [], l, h => absurd rfl h
  | [], _ :: _, l, h => rfl
  | _ :: _, [], l, h => rfl
  | k :: ks, o :: os, l, h => by
    simp only [mchs]
    have : ks.length ≠ os.length := fun e => h (by simp [e])
    cases mch k o l with
    | none => rfl
    | some l' => exact mts_len this
theorem mt_kids : ∀ (k o : Kd) (l : Al), (∀ i, k ≠ .opn i) → mch k o l = if hdA k o = true then mchs (kids k) (kids o) l else none
  | .opn i, _, _, h => absurd rfl (h i)
  | .num, o, l, _ => by cases o <;> rfl
  | .fn a b, o, l, _ => by
    cases o <;> try rfl
    simp only [mch, hdA, kids, mchs, if_true]
    congr 1
    funext l'
    cases mch b _ l' <;> rfl
  | .ref a, o, l, _ => by
    cases o <;> try rfl
    simp only [mch, hdA, kids, mchs, if_true]
    cases mch a _ l <;> rfl
  | .made n ks, o, l, _ => by
    cases o <;> try rfl
    rename_i n' os
    simp only [mch, hdA, kids, Bool.and_eq_true, beq_iff_eq]
    by_cases h1 : n = n'
    · by_cases h2 : ks.length = os.length
      · simp [h1, h2]
      · simp [h1, h2, mts_len h2]
    · simp [h1]
theorem hdA_len {k o : Kd} (h : hdA k o = true) : (kids k).length = (kids o).length := by
  cases k <;> cases o <;> simp [hdA] at h <;> simp [kids, h]
/-- a dict of the matching -/
def Gd (l : Al) : Prop := (∀ p ∈ l, dk p.2 ≤ 150) ∧ (keysA l).Nodup ∧ ∀ i ∈ keysA l, 0 ≤ i ∧ i < 5
theorem Gd.nil : Gd [] := ⟨by simp, by simp [keysA], by simp [keysA]⟩
theorem Gd.len {l : Al} (h : Gd l) : l.length ≤ 5 := by
  have := nodup_len (m := [0, 1, 2, 3, 4]) h.2.1 fun x hx => by
    have := h.2.2 x hx
    simp; omega
  simpa [keysA] using this
theorem Gd.snoc {l : Al} {i : Int} {k : Kd} (h : Gd l) (hi : i ∉ keysA l) (h0 : 0 ≤ i) (h1 : i < 5) (hk : dk k ≤ 150) : Gd (l ++ [(i, k)]) := by
  refine ⟨fun p hp => ?_, ?_, fun j hj => ?_⟩
  · rcases List.mem_append.mp hp with z | z
    · exact h.1 p z
    · rw [List.mem_singleton.mp z]; exact hk
  · simp only [keysA, List.map_append, List.map_cons, List.map_nil]
    rw [List.nodup_append]
    refine ⟨h.2.1, by simp, fun a ha b hb => ?_⟩
    rw [List.mem_singleton.mp hb]
    exact fun e => hi (e ▸ ha)
  · simp only [keysA, List.map_append, List.map_cons, List.map_nil, List.mem_append, List.mem_singleton] at hj
    rcases hj with z | z
    · exact h.2.2 j z
    · omega
def DB (c : Cell) : Prop := ∃ l, c = dC l ∧ Gd l
end Rx
namespace k13
open Rx
theorem sp_heads {k : Nat} {st : Store} {a b : Kd} : W (callP P (k + 2) i_heads_alike [toD a, toD b] st) (fun v st' => st' = st ∧ v = .bl (hdA a b)) := by
  rw [callP_succ (show P[i_heads_alike]? = some c_heads_alike from rfl), runB_eq rfl]
  have w1 := sp_within (k := k) (st := st) (κ := a)
  have w2 := sp_within (k := k) (st := st) (κ := b)
  cases a <;> cases b <;> simp only [toD] at w1 w2 <;> simp [toD, c_heads_alike, startD, evSs, evS, evE, evEs, evOr, evAnd, hdA] <;> try (
    refine w1.mono ?_
    rintro _ _ ⟨rfl, rfl⟩
    simp
    refine w2.mono ?_
    rintro _ _ ⟨rfl, rfl⟩
    simp [kids]
    done)
  rename_i n ks n' os
  by_cases hn : n = n'
  · simp [hn]
    rw [hn] at w1
    refine w1.mono ?_
    rintro _ _ ⟨rfl, rfl⟩
    simp
    refine w2.mono ?_
    rintro _ _ ⟨rfl, rfl⟩
    simp [kids]
    rw [Bool.eq_iff_iff]
    simp
    omega
  · simp [hn]
end k13

set_option Elab.async false
set_option linter.all false
set_option maxRecDepth 10000
set_option maxHeartbeats 1600000
set_option autoImplicit false
namespace Rx
theorem zip_cons {x y : D} {xs ys : List D} : zipL (x :: xs) (y :: ys) = .tup [x, y] :: zipL xs ys := by rw [zipL]
theorem zip_nil {ys : List D} : zipL [] ys = [] := by unfold zipL; rfl
end Rx
namespace k13
open Rx
theorem sp_matches : ∀ (k : Nat) (κ o : Kd) (l : Al) (n : Nat) (st : Store), dk κ ≤ k → dk κ ≤ 150 → dk o ≤ 150 → Opn5 (opens κ) → st[n]? = some (dC l) → Gd l →
    W (callP P (k + 3) i_matches [toD κ, toD o, .loc n] st) (fun r st' => Chg DB n st st' ∧ r = .bl (mch κ o l).isSome ∧ ∀ l', mch κ o l = some l' → st'[n]? = some (dC l') ∧ Gd l') := by
  intro k
  induction k with
  | zero => intro κ o l n st h; have := dk_pos κ; omega
  | succ k ih =>
    intro κ o l n st h hκ ho h5 hn hg
    have hbox : Box DB n st := ⟨_, hn, l, rfl, hg⟩
    rw [show k + 1 + 3 = (k + 3) + 1 by omega, callP_succ (show P[i_matches]? = some c_matches from rfl), runB_eq rfl]
    by_cases hop : ∃ i, κ = .opn i
    · obtain ⟨i, rfl⟩ := hop
      have hi : 0 ≤ i ∧ i < 5 := h5 i (by simp [opens])
      simp [toD, c_matches, startD, evSs, evS, evE, evEs, evO, notin_of (in_dC hn)]
      by_cases hm : i ∈ keysA l
      · obtain ⟨κ', e⟩ := lk_some hm
        simp [hm, ix_dC hn e]
        have hk' := hg.1 _ (lk_mem e)
        rw [cmp_keq (by simp only at hk'; omega) (by omega)]
        simp [mch, e]
        refine ⟨Chg.refl hbox, ?_, fun _ => ⟨hn, hg⟩⟩
        cases keq κ' o <;> rfl
      · have hl := hg.len
        simp [hm, put_dC hn (show l.length < LINE by simp only [LINE]; omega) hm]
        have hlt := hbox.lt
        have e2 : (st.set n (dC (l ++ [(i, o)])))[n]? = some (dC (l ++ [(i, o)])) := by simp [hlt]
        have e3 : lk (l ++ [(i, o)]) i = some o := by rw [lk_app, lk_none.mpr hm]; simp [lk]
        rw [ix_dC e2 e3]
        simp
        rw [cmp_keq (by omega) (by omega)]
        have hg' : Gd (l ++ [(i, o)]) := hg.snoc hm hi.1 hi.2 ho
        simp [mch, lk_none.mpr hm, keq_self]
        exact ⟨Chg.set hbox ⟨_, rfl, hg'⟩, e2, hg'⟩
    · have hop : ∀ i, κ ≠ .opn i := fun i e => hop ⟨i, e⟩
      have hd : ∃ s r, toD κ = .tup (.str s :: r) ∧ s ≠ "open" := by
        cases κ <;> first | exact absurd rfl (hop _) | exact ⟨_, _, rfl, by decide⟩
      obtain ⟨t, r, e1, e2⟩ := hd
      have hh := sp_heads (k := k + 1) (st := st) (a := κ) (b := o)
      have hw := sp_within (k := k + 2) (st := st) (κ := κ)
      have hw' := sp_within (k := k + 2) (st := st) (κ := o)
      rw [mt_kids κ o l hop]
      rw [e1] at hh hw ⊢
      simp [c_matches, startD, evSs, evS, evE, evEs, evI, evO, e2]
      refine hh.mono ?_
      rintro _ s1 ⟨rfl, rfl⟩
      simp
      by_cases hA : hdA κ o = true
      · simp [hA]
        refine hw.mono ?_
        rintro _ s2 ⟨rfl, rfl⟩
        refine hw'.mono ?_
        rintro _ s0 ⟨rfl, rfl⟩
        simp
        have hop5 : Opn5 (openss (kids κ)) := by rw [← opens_kids κ hop]; exact h5
        refine W_for (fun r' ρ s => ∃ ks os l'', r' = zipL (ks.map toD) (os.map toD) ∧ ks.length = os.length ∧ (∀ x ∈ ks, x ∈ kids κ) ∧ (∀ x ∈ os, x ∈ kids o) ∧ Chg DB n s0 s ∧ s[n]? = some (dC l'') ∧ Gd l'' ∧ mchs (kids κ) (kids o) l = mchs ks os l'' ∧
          ∃ o3 o4, ρ = [some (.tup (.str t :: r)), some (toD o), some (.loc n), o3, o4]) (fun _ _ _ _ => rfl) ?_ ?_ _ _ _ ⟨kids κ, kids o, l, rfl, hdA_len hA, fun _ h => h, fun _ h => h, Chg.refl hbox, hn, hg, rfl, _, _, rfl⟩
        · rintro x r' ρ s ⟨ks, os, l'', hr, hlen, hks, hos, hc, hn', hg', hmt, o3, o4, rfl⟩
          rcases ks with _ | ⟨a, ks⟩
          · simp [zip_nil] at hr
          rcases os with _ | ⟨b, os⟩
          · simp at hlen
          simp only [List.map_cons, zip_cons, List.cons.injEq] at hr
          obtain ⟨rfl, rfl⟩ := hr
          have ha := dk_kid (hks a (by simp))
          have hb := dk_kid (hos b (by simp))
          simp [bindT, setAll]
          have ha5 : Opn5 (opens a) := fun i hi => hop5 i (by
            have hm := hks a (by simp)
            obtain ⟨p, q, e⟩ := List.append_of_mem hm
            rw [e, openss_app]
            simp [openss, hi])
          refine (ih a b l'' n s (by omega) (by omega) (by omega) ha5 hn' hg').mono ?_
          rintro _ s2 ⟨hc2, rfl, h2⟩
          simp
          cases hq : mch a b l'' with
          | none =>
            simp
            have : mchs (kids κ) (kids o) l = none := by rw [hmt]; simp [mchs, hq]
            rw [this]
            exact ⟨hc.trans hc2, rfl, by simp⟩
          | some l3 =>
            simp
            obtain ⟨q1, q2⟩ := h2 l3 hq
            refine ⟨ks, os, rfl, by simpa using hlen, fun x hx => hks x (by simp [hx]), fun x hx => hos x (by simp [hx]), hc.trans hc2, l3, q1, q2, ?_⟩
            rw [hmt]; simp [mchs, hq]
        · rintro ρ s ⟨ks, os, l'', hr, hlen, hks, hos, hc, hn', hg', hmt, o3, o4, rfl⟩
          have hks0 : ks = [] := by
            rcases ks with _ | ⟨a, ks⟩
            · rfl
            · rcases os with _ | ⟨b, os⟩
              · simp at hlen
              · simp [zip_cons] at hr
          subst hks0
          have hos0 : os = [] := by simpa using hlen.symm
          subst hos0
          simp
          rw [hmt]
          simp [mchs]
          exact ⟨hc, hn', hg'⟩
      · simp [hA]
        exact Chg.refl hbox
end k13

set_option Elab.async false
set_option linter.all false
set_option maxRecDepth 10000
set_option maxHeartbeats 1600000
set_option autoImplicit false
namespace Rx
theorem Chg.ext {B : Cell → Prop} {st s : Store} {c : Cell} (h : Chg B st.length (st ++ [c]) s) : Ext st s := fun i d hi => by
  have hl := (List.getElem?_eq_some_iff.mp hi).1
  rw [h.old i (by omega) (by simp; omega), List.getElem?_append_left hl]; exact hi
theorem nf_snoc : ∀ (a : List Int) (m : Nat) (x : Int), nf (a ++ [x]) m = nf a m ++ [(x, .opn ((m + a.length : Nat) : Int))]
  | [], m, x => by simp [nf]
  | y :: a, m, x => by
    have e : m + 1 + a.length = m + (a.length + 1) := by omega
    simp only [List.cons_append, nf, nf_snoc a (m + 1) x, List.length_cons, e]
theorem cmp_isnone {d : D} {st : Store} : cmpV .is d .non st = some (match d with | .non => true | _ => false) := by
  cases d <;> rfl
theorem cmp_notnone {d : D} {st : Store} : cmpV .isnot d .non st = some (match d with | .non => false | _ => true) := by
  cases d <;> rfl
end Rx
namespace k13
open Rx
theorem sp_matched {k : Nat} {κ o : Kd} {st : Store} (h : dk κ ≤ k) (hκ : dk κ ≤ 150) (ho : dk o ≤ 150) (h5 : Opn5 (opens κ)) :
    W (callP P (k + 4) i_matched [toD κ, toD o] st) (fun r st' => Ext st st' ∧ ((∃ l, mch κ o [] = some l ∧ r = .loc st.length ∧ st'[st.length]? = some (dC l) ∧ Gd l) ∨ (mch κ o [] = none ∧ r = .non))) := by
  rw [callP_succ (show P[i_matched]? = some c_matched from rfl), runB_eq rfl]
  simp [c_matched, startD, evSs, evS, evE, evEs, pairsD]
  refine (sp_matches k κ o [] st.length (st ++ [.dct [] []]) h hκ ho h5 (by simp [dC]) Gd.nil).mono ?_
  rintro _ s ⟨hc, rfl, h2⟩
  simp
  cases hq : mch κ o [] with
  | none => simp; exact hc.ext
  | some l =>
    simp
    exact ⟨hc.ext, h2 l hq⟩
theorem sp_numbered {k : Nat} {κ : Kd} {st : Store} (h : dk κ ≤ k) (hs : size κ ≤ 100000) : W (callP P (k + 4) i_numbered [toD κ] st) (fun r st' => Ext st st' ∧ r = toD (numb κ)) := by
  rw [callP_succ (show P[i_numbered]? = some c_numbered from rfl), runB_eq rfl]
  simp [c_numbered, startD, evSs, evS, evE, evEs, evI, pairsD]
  refine (sp_opens_in (k + 1) κ _ (by omega) hs).mono ?_
  rintro _ s1 ⟨e1, rfl⟩
  simp [enumOf]
  have hn1 : s1[st.length]? = some (dC []) := e1 _ _ (by simp [dC])
  have e0 : Ext st s1 := Ext.app.trans e1
  have hu := nub_nodup (opens κ)
  have hul : (nub (opens κ)).length ≤ 100000 := by
    have := nub_len (opens κ); have := opens_len κ; omega
  refine W_for (fun r ρ s => ∃ pre post, nub (opens κ) = pre ++ post ∧ r = enumL pre.length (Ints post) ∧ Ext st s ∧ s[st.length]? = some (dC (nf pre 0)) ∧ ∃ o p, ρ = [some (toD κ), some (.loc st.length), o, p]) (fun _ _ _ _ => rfl) ?_ ?_ _ _ _
    ⟨[], nub (opens κ), rfl, rfl, e0, hn1, _, _, rfl⟩
  · rintro x r ρ s ⟨pre, post, hpp, hr, e2, hn2, o, p, rfl⟩
    rcases post with _ | ⟨i, post⟩
    · simp [Ints, enumL] at hr
    simp only [Ints, List.map_cons, enumL, List.cons.injEq] at hr
    obtain ⟨rfl, rfl⟩ := hr
    have hni : i ∉ keysA (nf pre 0) := by
      rw [nf_keys]
      rw [hpp, List.nodup_append] at hu
      exact fun hm => hu.2.2 i hm i (by simp) rfl
    have hpl : pre.length ≤ 100000 := by rw [hpp] at hul; simp at hul; omega
    have hlen : (nf pre 0).length < LINE := by
      have : (nf pre 0).length = pre.length := by rw [← List.length_map (f := Prod.fst), show (nf pre 0).map Prod.fst = keysA (nf pre 0) from rfl, nf_keys]
      rw [this]; simp only [LINE]; omega
    have hp := put_dC (k := .opn (pre.length : Int)) hn2 hlen hni
    simp only [toD] at hp
    simp [bindT, setAll, hp]
    have hlt := (List.getElem?_eq_some_iff.mp hn2).1
    refine ⟨pre ++ [i], post, by simp [hpp], by simp [Ints], e2.set (Nat.le_refl _), ?_⟩
    rw [nf_snoc]
    simp [hlt]
  · rintro ρ s ⟨pre, post, hpp, hr, e2, hn2, o, p, rfl⟩
    have : post = [] := by
      rcases post with _ | ⟨i, post⟩
      · rfl
      · simp [Ints, enumL] at hr
    subst this
    rw [List.append_nil] at hpp
    simp
    refine (sp_filled (k + 1) κ (nf pre 0) st.length s (by omega) hs hn2).mono ?_
    rintro _ _ ⟨rfl, rfl⟩
    refine ⟨e2, ?_⟩
    rw [numb, hpp]
theorem sp_lwithin {k : Nat} {κ : Kd} {st : Store} : W (callP P (k + 1) i_law_within [toD κ] st) (fun v st' => v = .loc st.length ∧ st' = st ++ [.lst ((kids κ).map toD)]) := by
  rw [callP_succ (show P[i_law_within]? = some c_law_within from rfl), runB_eq rfl]
  cases κ <;> simp [toD, kids, c_law_within, startD, evSs, evS, evE, evEs, evO, sliV, cut_1, toDs_map]
theorem sp_lwith {k : Nat} {st : Store} {κ : Kd} {ks : List Kd} {v : D} (hv : lstOf st v = some (ks.map toD)) (hl : ks.length = (kids κ).length) (hn : ∀ i, κ ≠ .opn i) (hz : ks.length ≤ 100000) : W (callP P (k + 1) i_law_with [toD κ, v] st) (fun r st' => st' = st ∧ r = toD (reb κ ks)) := by
  have := sp_with (k := k) hv hl hn hz
  rw [callP_succ (show P[i_with_within]? = some c_with_within from rfl), runB_eq rfl] at this
  rw [callP_succ (show P[i_law_with]? = some c_law_with from rfl), runB_eq rfl]
  exact this
end k13

set_option Elab.async false
set_option linter.all false
set_option maxRecDepth 10000
set_option maxHeartbeats 1600000
set_option autoImplicit false
namespace Rx
def cK : Kd → Nat
  | .made _ _ => 2
  | _ => 1
theorem dk_kids (κ : Kd) : dk κ = dks (kids κ) + cK κ := by
  cases κ
  · rw [dk_num]; rfl
  · rw [dk_opn]; rfl
  · rw [dk_fn]; simp [kids, dks_cons, dks_nil, cK]
  · rw [dk_ref]; simp [kids, dks_cons, dks_nil, cK]
  · rw [dk_made]; rfl
theorem sizes_set : ∀ {ks : List Kd} {j : Nat} {a x : Kd}, ks[j]? = some a → sizes (ks.set j x) + size a = sizes ks + size x
  | [], j, a, x, h => by simp at h
  | k :: ks, 0, a, x, h => by simp at h; subst h; simp only [List.set_cons_zero, sizes]; omega
  | k :: ks, j + 1, a, x, h => by
    have := sizes_set (x := x) (show ks[j]? = some a by simpa using h)
    simp only [List.set_cons_succ, sizes]; omega
theorem openss_all {p : Int → Prop} : ∀ {ks : List Kd}, (∀ x ∈ ks, ∀ i ∈ opens x, p i) → ∀ i ∈ openss ks, p i
  | [], _, i, hi => by simp [openss] at hi
  | k :: ks, h, i, hi => by
    simp only [openss, List.mem_append] at hi
    rcases hi with hi | hi
    · exact h k (by simp) i hi
    · exact openss_all (ks := ks) (fun x hx => h x (by simp [hx])) i hi
theorem mem_openss {x : Kd} {i : Int} (hi : i ∈ opens x) : ∀ {ks : List Kd}, x ∈ ks → i ∈ openss ks
  | k :: ks, h => by
    simp only [openss, List.mem_append]
    rcases List.mem_cons.mp h with z | z
    · exact .inl (z ▸ hi)
    · exact .inr (mem_openss hi z)
theorem mem_set {α : Type} {l : List α} {j : Nat} {a x : α} (h : x ∈ l.set j a) : x ∈ l ∨ x = a := by
  rcases List.mem_or_eq_of_mem_set h with z | z
  · exact .inl z
  · exact .inr z
end Rx
namespace k13
open Rx
theorem kids_reb {κ : Kd} {ks : List Kd} (h : ks.length = (kids κ).length) : kids (reb κ ks) = ks := by
  cases κ with
  | num => simp [kids] at h; subst h; rfl
  | opn i => simp [kids] at h; subst h; rfl
  | fn a b =>
    rcases ks with _ | ⟨c, _ | ⟨d, _ | ⟨e, r⟩⟩⟩ <;> simp [kids] at h
    rfl
  | ref a =>
    rcases ks with _ | ⟨c, _ | ⟨d, r⟩⟩ <;> simp [kids] at h
    rfl
  | made n os => rfl
theorem cK_reb {κ : Kd} {ks : List Kd} (h : ks.length = (kids κ).length) : cK (reb κ ks) = cK κ := by
  cases κ with
  | num => simp [kids] at h; subst h; rfl
  | opn i => simp [kids] at h; subst h; rfl
  | fn a b =>
    rcases ks with _ | ⟨c, _ | ⟨d, _ | ⟨e, r⟩⟩⟩ <;> simp [kids] at h
    rfl
  | ref a =>
    rcases ks with _ | ⟨c, _ | ⟨d, r⟩⟩ <;> simp [kids] at h
    rfl
  | made n os => rfl
theorem reb_opn {κ : Kd} {ks : List Kd} (h : ∀ i, κ ≠ .opn i) : ∀ i, reb κ ks ≠ .opn i := by
  intro i e
  unfold reb at e
  split at e <;> first | (cases e; done) | exact h i e
/-- a kind with one part exchanged -/
theorem spoil_ok {κ a' : Kd} {a : Kd} {j m : Nat} (hn : ∀ i, κ ≠ .opn i) (hj : (kids κ)[j]? = some a) (h1 : size a' ≤ size a + 3) (h2 : dk a' ≤ dk a + 2) (h3 : Opn5 (opens a')) (h5 : Opn5 (opens κ)) :
    size (reb κ ((kids κ).set j a')) ≤ size κ + 3 ∧ dk (reb κ ((kids κ).set j a')) ≤ dk κ + 2 ∧ Opn5 (opens (reb κ ((kids κ).set j a'))) := by
  have hl : ((kids κ).set j a').length = (kids κ).length := by simp
  have hm := List.mem_of_getElem? hj
  refine ⟨?_, ?_, ?_⟩
  · rw [size_kids (reb _ _), kids_reb hl, size_kids κ]
    have := sizes_set (x := a') hj
    omega
  · rw [dk_kids (reb _ _), kids_reb hl, cK_reb hl, dk_kids κ]
    have : dks ((kids κ).set j a') ≤ dks (kids κ) + 2 := dks_le fun x hx => by
      rcases mem_set hx with z | z
      · have := dks_mem z; omega
      · subst z; have := dks_mem hm; omega
    omega
  · rw [opens_kids _ (reb_opn hn), kids_reb hl]
    refine openss_all fun x hx i hi => ?_
    rcases mem_set hx with z | z
    · refine h5 i ?_
      rw [opens_kids κ hn]
      exact mem_openss hi z
    · subst z; exact h3 i hi
theorem sp_spoilt : ∀ (k : Nat) (κ : Kd) (n : Nat) (v : D) (st : Store), dk κ ≤ k → size κ ≤ 50000 → Opn5 (opens κ) → Bx n st → Nms v →
    W (callP P (k + 6) i_law_spoilt [.loc n, toD κ, v] st) (fun r st' => Ch n st st' ∧ ∃ κ', r = toD κ' ∧ size κ' ≤ size κ + 3 ∧ dk κ' ≤ dk κ + 2 ∧ Opn5 (opens κ')) := by
  intro k
  induction k with
  | zero => intro κ n v st h; have := dk_pos κ; omega
  | succ k ih =>
    intro κ n v st h hs h5 hb hv
    rw [show k + 1 + 6 = (k + 6) + 1 by omega, callP_succ (show P[i_law_spoilt]? = some c_law_spoilt from rfl), runB_eq rfl]
    simp [c_law_spoilt, startD, evSs, evS, evE, evEs, evOr]
    refine (sp_lwithin (k := k + 5)).mono ?_
    rintro _ _ ⟨rfl, rfl⟩
    have c0 : Ch n st (st ++ [.lst ((kids κ).map toD)]) := (Chg.refl hb).app
    have hn : st.length ≠ n := by have := hb.lt; omega
    have m0 : (st ++ [Cell.lst ((kids κ).map toD)])[st.length]? = some (.lst ((kids κ).map toD)) := by simp
    simp [eq_nil_loc m0]
    have new : ∀ (s : Store), Ch n st s → W (callP P (k + 6) i_law_kind [.loc n, v, .int 5, .int 1] s) (fun r st' => Ch n st st' ∧ ∃ κ', r = toD κ' ∧ size κ' ≤ size κ + 3 ∧ dk κ' ≤ dk κ + 2 ∧ Opn5 (opens κ')) := fun s hc => by
      have := sp_kind 1 (k + 2) (st := s) hc.box hv (most := 5) (by omega) (by omega)
      rw [show k + 2 + 1 + 3 = k + 6 by omega] at this
      refine this.mono ?_
      rintro _ s' ⟨hc', κ', rfl, q1, q2, q3⟩
      have := size_pos κ
      have := dk_pos κ
      exact ⟨hc.trans hc', κ', rfl, by omega, by omega, q3⟩
    by_cases hk : kids κ = []
    · simp [hk]
      simp [hk] at c0
      exact new _ c0
    · simp [hk]
      have hop : ∀ i, κ ≠ .opn i := fun i e => hk (by rw [e]; rfl)
      have hpos := List.length_pos_iff.mpr hk
      have hsz := len_sizes (kids κ)
      have hsk := size_kids κ
      refine (sp_take (k := k + 4) c0.box (by omega) (by omega)).mono ?_
      rintro _ s1 ⟨c1, i, rfl, i0, i1⟩
      simp
      split
      · exact new _ (c0.trans c1)
      · have m1 : s1[st.length]? = some (.lst ((kids κ).map toD)) := c1.at hn m0
        rw [len_loc m1]
        simp
        refine (sp_take (k := k + 4) c1.box (by omega) (by omega)).mono ?_
        rintro _ s2 ⟨c2, j, rfl, j0, j1⟩
        have m2 := c2.at hn m1
        obtain ⟨j, rfl⟩ := Int.eq_ofNat_of_zero_le j0
        have hj : j < (kids κ).length := by omega
        have ha : (kids κ)[j]? = some ((kids κ)[j]'hj) := List.getElem?_eq_getElem hj
        generalize (kids κ)[j]'hj = a at ha
        have hma := List.mem_of_getElem? ha
        have ea : atI ((kids κ).map toD) (j : Int) = some (toD a) := by
          rw [atI_nat (by simpa using hj)]
          have := (List.getElem?_eq_some_iff.mp ha).2
          simp [this]
        rw [ix_loc m2, ea]
        simp
        have c02 : Ch n st s2 := (c0.trans c1).trans c2
        refine (ih a n v s2 (by have := dk_kid hma; omega) (by have := size_mem hma; omega) (fun i hi => h5 i (by rw [opens_kids κ hop]; exact mem_openss hi hma)) c02.box hv).mono ?_
        rintro _ s3 ⟨c3, a', rfl, q1, q2, q3⟩
        have m3 := c3.at hn m2
        have ej : ixN (kids κ).length (j : Int) = some j := ixN_nat hj
        simp [putV, m3, ej]
        obtain ⟨p1, p2, p3⟩ := spoil_ok (m := 0) hop ha q1 q2 q3 h5
        have hlt := (List.getElem?_eq_some_iff.mp m3).1
        have em : ((kids κ).map toD).set j (toD a') = ((kids κ).set j a').map toD := by simp
        rw [em]
        refine (sp_lwith (k := k + 5) (κ := κ) (ks := (kids κ).set j a') (v := .loc st.length) ?_ (by simp) hop (by simp; omega)).mono ?_
        · simp only [lstOf]
          rw [List.getElem?_set_self hlt]
        · rintro _ _ ⟨rfl, rfl⟩
          exact ⟨(c02.trans c3).set' hn (Nat.le_refl _), _, rfl, p1, p2, p3⟩
end k13

set_option Elab.async false
set_option linter.all false
set_option maxRecDepth 10000
set_option maxHeartbeats 1600000
set_option autoImplicit false
namespace Rx
theorem guard2 {zs xs ys : List D} {a b : Nat} {st : Store} (h : st[a]? = some (.lst xs)) (h' : st[b]? = some (.lst ys)) : guard ⟨zs, [(a, xs), (b, ys)]⟩ st = true := by
  simp [guard, guardL, h, h', sameAll_refl]
end Rx
namespace k13
open Rx
/-- where the pairs stand -/
def FI (κ o : Kd) (l : Al) (n : Nat) (s : Store) (acc : List D) (ks os : List Kd) : Prop := ∃ l'' b, s[n]? = some (dC l'') ∧ Gd l'' ∧ isIn (.bl false) acc = !b ∧ acc.all scal = true ∧ mchs (kids κ) (kids o) l = if b = true then mchs ks os l'' else none
theorem hd_eq {κ : Kd} : ∃ r, toD κ = .tup (.str (hdS κ) :: r) := by cases κ <;> exact ⟨_, rfl⟩
def dropS : Nat → Ss → Ss
  | 0, ss => ss
  | n + 1, .cons _ ss => dropS n ss
  | _ + 1, .nil => .nil
def fitsTail : Ss := dropS 2 c_law_fits.body
theorem sp_fits : ∀ (k : Nat) (κ o : Kd) (l : Al) (n : Nat) (st : Store), dk κ ≤ k → dk κ ≤ 150 → dk o ≤ 150 → size κ ≤ 100000 → size o ≤ 100000 → Opn5 (opens κ) → st[n]? = some (dC l) → Gd l →
    W (callP P (k + 3) i_law_fits [toD κ, toD o, .loc n] st) (fun r st' => Chg DB n st st' ∧ r = .bl (mch κ o l).isSome ∧ ∀ l', mch κ o l = some l' → st'[n]? = some (dC l') ∧ Gd l') := by
  intro k
  induction k with
  | zero => intro κ o l n st h; have := dk_pos κ; omega
  | succ k ih =>
    intro κ o l n st h hκ ho hsz hsz' h5 hn hg
    have hbox : Box DB n st := ⟨_, hn, l, rfl, hg⟩
    have hl := hg.len
    rw [show k + 1 + 3 = (k + 3) + 1 by omega, callP_succ (show P[i_law_fits]? = some c_law_fits from rfl), runB_eq rfl]
    by_cases hop : ∃ i, κ = .opn i
    · obtain ⟨i, rfl⟩ := hop
      have hi : 0 ≤ i ∧ i < 5 := h5 i (by simp [opens])
      simp [toD, c_law_fits, startD, evSs, evS, evE, evEs, evO, setdis_dC hn, setd_dC hn (show l.length < LINE by simp only [LINE]; omega)]
      cases e : lk l i with
      | some κ' =>
        have hk' := hg.1 _ (lk_mem e)
        simp
        rw [cmp_keq (by simp only at hk'; omega) (by omega)]
        simp [mch, e]
        refine ⟨Chg.refl hbox, ?_, fun _ => ⟨hn, hg⟩⟩
        cases keq κ' o <;> rfl
      | none =>
        have hm := lk_none.mp e
        have hlt := hbox.lt
        have e2 : (st.set n (dC (l ++ [(i, o)])))[n]? = some (dC (l ++ [(i, o)])) := by simp [hlt]
        simp
        rw [cmp_keq (by omega) (by omega)]
        have hg' : Gd (l ++ [(i, o)]) := hg.snoc hm hi.1 hi.2 ho
        simp [mch, e, keq_self]
        exact ⟨Chg.set hbox ⟨_, rfl, hg'⟩, e2, hg'⟩
    · have hop : ∀ i, κ ≠ .opn i := fun i e => hop ⟨i, e⟩
      have hhd : hdS κ ≠ "open" := by
        cases κ <;> first | exact absurd rfl (hop _) | simp [hdS]
      have core : hdS κ = hdS o → (∀ a b, κ = .made a b → ∃ c, o = .made a c) → W (evSs (callP P (k + 3)) fitsTail [some (toD κ), some (toD o), some (.loc n), none, none, none, none] st) (fun r s => W (match r with | .nx _ => Res.ok .non s | .rt d => .ok d s) fun r st' =>
          Chg DB n st st' ∧ r = .bl (mch κ o l).isSome ∧ ∀ l', mch κ o l = some l' → st'[n]? = some (dC l') ∧ Gd l') := by
        intro hh hh2
        have hhA : hdA κ o = ((kids κ).length == (kids o).length) := by
          cases κ <;> cases o <;> first | (simp [hdS] at hh; done) | (simp [hdA, kids]; done) | skip
          · obtain ⟨c, hc⟩ := hh2 _ _ rfl
            cases hc
            simp [hdA, kids]
        have c0 := (Chg.refl hbox)
        simp [fitsTail, dropS, c_law_fits, evSs, evS, evE, evEs, evI, evC]
        refine (sp_lwithin (k := k + 2)).mono ?_
        rintro _ _ ⟨rfl, rfl⟩
        refine (sp_lwithin (k := k + 2)).mono ?_
        rintro _ _ ⟨rfl, rfl⟩
        have ma : (st ++ [Cell.lst ((kids κ).map toD)] ++ [Cell.lst ((kids o).map toD)])[st.length]? = some (.lst ((kids κ).map toD)) := by simp [List.getElem?_append]
        have mb : (st ++ [Cell.lst ((kids κ).map toD)] ++ [Cell.lst ((kids o).map toD)])[(st ++ [Cell.lst ((kids κ).map toD)]).length]? = some (.lst ((kids o).map toD)) := by simp
        have c02 : Chg DB n st (st ++ [Cell.lst ((kids κ).map toD)] ++ [Cell.lst ((kids o).map toD)]) := c0.app.app
        have hna : st.length ≠ n := by have := hbox.lt; omega
        have hnb : (st ++ [Cell.lst ((kids κ).map toD)]).length ≠ n := by have := hbox.lt; simp; omega
        have hn2 : (st ++ [Cell.lst ((kids κ).map toD)] ++ [Cell.lst ((kids o).map toD)])[n]? = some (dC l) := by
          have := hbox.lt
          rw [List.append_assoc, List.getElem?_append_left this]; exact hn
        generalize st ++ [Cell.lst ((kids κ).map toD)] ++ [Cell.lst ((kids o).map toD)] = s2 at ma mb c02 hn2 ⊢
        generalize (st ++ [Cell.lst ((kids κ).map toD)]).length = pb at mb hnb ⊢
        generalize st.length = pa at ma hna ⊢
        rw [len_loc ma, W_ok, len_loc mb]
        simp
        rw [mt_kids κ o l hop, hhA]
        by_cases hlen : (kids κ).length = (kids o).length
        · have hlen' : ((kids κ).length : Int) = (kids o).length := by rw [hlen]
          simp [hlen, wlkL, ma, mb]
          have hop5 : Opn5 (openss (kids κ)) := by rw [← opens_kids κ hop]; exact h5
          have hsz1 := size_kids κ
          have hsz2 := size_kids o
          have hll := len_sizes (kids κ)
          refine W_lc (fun r acc s => ∃ ks os, r = zipL (ks.map toD) (os.map toD) ∧ ks.length = os.length ∧ (∀ x ∈ ks, x ∈ kids κ) ∧ (∀ x ∈ os, x ∈ kids o) ∧ acc.length + ks.length = (kids κ).length ∧ Chg DB n st s ∧ s[pa]? = some (.lst ((kids κ).map toD)) ∧ s[pb]? = some (.lst ((kids o).map toD)) ∧
            FI κ o l n s acc ks os) ?_ ?_ ?_ _ _ _
            ⟨kids κ, kids o, rfl, hlen, fun _ h => h, fun _ h => h, by simp, c02, ma, mb, l, true, hn2, hg, by simp [isIn], rfl, by simp⟩
          · rintro r acc s ⟨ks, os, _, _, _, _, _, _, qa, qb, _⟩
            exact guard2 qa qb
          · rintro x r acc s ⟨ks, os, hr, hlen2, hks, hos, hac, hc, qa, qb, l'', b, hn', hg', hin, hsc, hmt⟩
            rcases ks with _ | ⟨a, ks⟩
            · simp [zip_nil] at hr
            rcases os with _ | ⟨c, os⟩
            · simp at hlen2
            simp only [List.map_cons, zip_cons, List.cons.injEq] at hr
            obtain ⟨rfl, rfl⟩ := hr
            have ha := dk_kid (hks a (by simp))
            have hcc := dk_kid (hos c (by simp))
            have hsa := size_mem (hks a (by simp))
            have hsc2 := size_mem (hos c (by simp))
            simp [bindT, setAll, wipeD]
            have ha5 : Opn5 (opens a) := fun i hi => hop5 i (mem_openss hi (hks a (by simp)))
            refine (ih a c l'' n s (by omega) (by omega) (by omega) (by omega) (by omega) ha5 hn' hg').mono ?_
            rintro _ s3 ⟨hc3, rfl, h3⟩
            simp only [List.length_cons] at hac
            have hz : Chg DB n st s3 := hc.trans hc3
            obtain ⟨_, e3, l3, rfl, hg3⟩ := hc3.box
            refine ⟨by simp only [LINE]; omega, ks, os, rfl, by simpa using hlen2, fun x hx => hks x (by simp [hx]), fun x hx => hos x (by simp [hx]), by omega, hz, hc3.at hna qa, hc3.at hnb qb, ?_⟩
            cases b with
            | false =>
              refine ⟨l3, false, e3, hg3, ?_, by simp [hsc, scal], by rw [hmt]; rfl⟩
              unfold isIn at hin ⊢
              rw [List.any_append, hin]; rfl
            | true =>
              simp only [if_true, mchs] at hmt
              cases hq : mch a c l'' with
              | none =>
                refine ⟨l3, false, e3, hg3, ?_, by simp [hsc, scal], by rw [hmt, hq]; rfl⟩
                unfold isIn at hin ⊢
                rw [List.any_append, hin]
                simp [D.eq]
              | some l4 =>
                obtain ⟨q1, q2⟩ := h3 l4 hq
                refine ⟨l4, true, q1, q2, ?_, by simp [hsc, scal], by rw [hmt, hq]; rfl⟩
                unfold isIn at hin ⊢
                rw [List.any_append, hin]
                simp [D.eq]
          · rintro acc s ⟨ks, os, hr, hlen2, hks, hos, hac, hc, qa, qb, l'', b, hn', hg', hin, hsc, hmt⟩
            have hks0 : ks = [] := by
              rcases ks with _ | ⟨a, ks⟩
              · rfl
              · rcases os with _ | ⟨b, os⟩
                · simp at hlen2
                · simp [zip_cons] at hr
            subst hks0
            have hos0 : os = [] := by simpa using hlen2.symm
            subst hos0
            have : cmpV Co.notin (D.bl false) (D.lst acc) s = some b := by
              have e : cmpV Co.isin (D.bl false) (D.lst acc) s = some (!b) := by
                show inB (D.bl false) (D.lst acc) s = _
                simp only [inB, seqOf, scal, hsc, hin]
                simp
              rw [notin_of e]; simp
            rw [this]
            simp
            rw [hmt]
            cases b
            · simp; exact hc
            · simp [mchs]; exact ⟨hc, hn', hg'⟩
        · have hlen' : ¬ ((kids κ).length : Int) = (kids o).length := by omega
          simp [hlen, hlen']
          exact c02
      have hb0 : c_law_fits.body = .cons (.iff (.cmp .eq (.ix (.var 0) (.lit (.int 0))) (.lit (.str "open"))) (.cons (.ret (.cmp .eq (.me .setdef false (.var 2) (.cons (.ix (.var 0) (.lit (.int 1))) (.cons (.var 1) .nil))) (.var 1))) .nil) .nil)
        (.cons (.iff (.ors (.cons (.cmp .ne (.ix (.var 0) (.lit (.int 0))) (.ix (.var 1) (.lit (.int 0)))) (.cons (.ands (.cons (.cmp .eq (.ix (.var 0) (.lit (.int 0))) (.lit (.str "made"))) (.cons (.cmp .ne (.ix (.var 0) (.lit (.int 1))) (.ix (.var 1) (.lit (.int 1)))) .nil))) .nil))) (.cons (.ret (.lit (.bl false))) .nil) .nil) fitsTail) := rfl
      rw [hb0, W_bind, W_seq]
      obtain ⟨r, e1⟩ := hd_eq (κ := κ)
      obtain ⟨r', e1'⟩ := hd_eq (κ := o)
      have bad : hdA κ o = false → mch κ o l = none := fun h => by rw [mt_kids κ o l hop, h]; rfl
      rw [e1, e1'] at core ⊢
      simp [startD, c_law_fits, evS, evE, evEs, hhd, evSs_nil]
      rw [W_seq]
      simp [evS, evE, evEs, evOr, evAnd, evSs_nil]
      by_cases hh : hdS κ = hdS o
      · simp [hh]
        by_cases hm : hdS o = "made"
        · obtain ⟨a, b, rfl⟩ : ∃ a b, κ = .made a b := by
            rw [hm] at hh
            cases κ <;> first | (simp [hdS] at hh; done) | exact ⟨_, _, rfl⟩
          obtain ⟨c, b', rfl⟩ : ∃ a b, o = .made a b := by
            cases o <;> first | (simp [hdS] at hm; done) | exact ⟨_, _, rfl⟩
          simp only [toD, hdS, D.tup.injEq, List.cons.injEq, true_and] at e1 e1'
          subst e1 e1'
          simp [hdS]
          by_cases hac : a = c
          · subst hac
            simp
            exact core rfl fun a' b'' e => by cases e; exact ⟨_, rfl⟩
          · have : hdA (.made a b) (.made c b') = false := by simp [hdA, hac]
            simp [hac, evSs, evS, evE, bad this]
            exact Chg.refl hbox
        · simp [hm]
          rw [hh] at core
          refine core rfl fun a b e => ?_
          rw [e] at hh
          exact absurd hh.symm hm
      · have : hdA κ o = false := by
          cases κ <;> cases o <;> first | rfl | exact absurd rfl hh
        simp [hh, evSs, evS, evE, bad this]
        exact Chg.refl hbox
end k13

set_option Elab.async false
set_option linter.all false
set_option maxRecDepth 10000
set_option maxHeartbeats 1600000
set_option autoImplicit false
namespace Rx
theorem kys_dC : ∀ l : Al, kysI (l.map fun p => Ky.i p.1) = some (keysA l)
  | [] => rfl
  | (i, k) :: l => by simp only [List.map_cons, kysI, kys_dC l, keysA, Option.map_some]
theorem sort_dC {m : Bool} {n : Nat} {l : Al} {st : Store} (h : st[n]? = some (dC l)) (hl : l.length < 64) : biV .sorted m [.loc n] st = newL m (Ints (sortI (keysA l))) st := by
  have : (keysA l).length < 64 := by simpa [keysA] using hl
  simp only [biV, seqOf, h, dC, dctOf, kys_dC, if_pos this]
  rfl
theorem sort_tup {m : Bool} {l : List Int} {st : Store} : biV .sorted m [.tup (Ints l)] st = newL m (Ints (sortI l)) st := by
  simp only [biV, seqOf, ints_D]
  rfl
theorem clear_dC {m : Bool} {n : Nat} {l : Al} {st : Store} (h : st[n]? = some (dC l)) : meIs st .clear (.loc n) = true ∧ meV .clear m (.loc n) [] st = .ok .non (st.set n (dC [])) := by
  constructor
  · simp only [meIs, h, dC]
  · simp only [meV, h, dC]; rfl
theorem isd_dC {n : Nat} {l : Al} {st : Store} (h : st[n]? = some (dC l)) : isTy st (.loc n) .dict = some true := by
  simp only [isTy, h, dC]
theorem cmp_eqD {a b : Nat} {l m : Al} {st : Store} (ha : st[a]? = some (dC l)) (hb : st[b]? = some (dC m)) (hl : ∀ p ∈ l, dk p.2 ≤ 150) (hm : ∀ p ∈ m, dk p.2 ≤ 150) : cmpV .eq (.loc a) (.loc b) st = some (deq l m) := eqB_dC ha hb hl hm
theorem cmp_neD {a b : Nat} {l m : Al} {st : Store} (ha : st[a]? = some (dC l)) (hb : st[b]? = some (dC m)) (hl : ∀ p ∈ l, dk p.2 ≤ 150) (hm : ∀ p ∈ m, dk p.2 ≤ 150) : cmpV .ne (.loc a) (.loc b) st = some (!deq l m) := by
  show (eqB (.loc a) (.loc b) st).map (!·) = _
  rw [eqB_dC ha hb hl hm]; rfl
end Rx
namespace k13
open Rx
theorem sp_right {k : Nat} {κ o : Kd} {st : Store} (h : dk κ ≤ k) (hκ : dk κ ≤ 150) (ho : dk o ≤ 150) (hs : size κ ≤ 100000) (hs' : size o ≤ 100000) (h5 : Opn5 (opens κ)) :
    W (callP P (k + 5) i_law_right [toD κ, toD o] st) (fun r st' => Ext st st' ∧ r = .bl true) := by
  rw [callP_succ (show P[i_law_right]? = some c_law_right from rfl), runB_eq rfl]
  simp [c_law_right, startD, evSs, evS, evE, evEs, pairsD, evOr]
  have h0 : (st ++ [Cell.dct [] []])[st.length]? = some (dC []) := by simp [dC]
  refine (sp_fits (k + 1) κ o [] st.length _ (by omega) hκ ho hs hs' h5 h0 Gd.nil).mono ?_
  rintro _ s1 ⟨c1, rfl, h1⟩
  have e01 : Ext st s1 := c1.ext
  simp
  refine (sp_matched (k := k) (st := s1) h hκ ho h5).mono ?_
  rintro r s2 ⟨e2, hr⟩
  rcases hr with ⟨l, hm, rfl, hf, hg⟩ | ⟨hm, rfl⟩
  · simp [hm]
    have hd : s2[st.length]? = some (dC l) := e2 _ _ (h1 l hm).1
    have hsub := mch_sub κ o [] l hm
    have hfill := hsub.2.2 (lk l) fun _ _ h => h
    have hkeys : keysA l = nub (opens κ) := by rw [hsub.2.1]; exact dd_nub _
    have hgl := hg.len
    have hdl := deq_self hg.2.1
    simp [isd_dC hf]
    rw [cmp_neD hf hd hg.1 hg.1, hdl]
    simp
    refine (sp_filled (k + 2) κ l s1.length s2 (by omega) hs hf).mono ?_
    rintro _ _ ⟨rfl, rfl⟩
    rw [hfill]
    rw [cmp_kne (by omega) (by omega)]
    simp [keq_self]
    rw [sort_dC hf (by omega)]
    simp
    rename_i s2
    refine (sp_opens_in (k + 2) κ s2 (by omega) hs).mono ?_
    rintro _ s3 ⟨e3, rfl⟩
    rw [sort_tup]
    simp
    rw [hkeys, ne_ints]
    simp
    obtain ⟨q1, q2⟩ := clear_dC (m := false) (e3 _ _ hf)
    simp [q1, q2]
    have hlt1 : st.length < s1.length := (List.getElem?_eq_some_iff.mp (h1 l hm).1).1
    have hf3 : s3[s1.length]? = some (dC l) := e3 _ _ hf
    have hlt3 := (List.getElem?_eq_some_iff.mp hf3).1
    have hd3 : (s3.set s1.length (dC []))[st.length]? = some (dC l) := by
      rw [List.getElem?_set_ne (by omega)]; exact e3 _ _ hd
    have e13 : Ext s1 (s3.set s1.length (dC [])) := (e2.trans e3).set (Nat.le_refl _)
    refine (sp_matched (k := k) (st := s3.set s1.length (dC [])) h hκ ho h5).mono ?_
    rintro r s4 ⟨e4, hr⟩
    rcases hr with ⟨l', hm', rfl, hf', hg'⟩ | ⟨hm', rfl⟩
    · rw [hm] at hm'; cases hm'
      rw [cmp_eqD hf' (e4 _ _ hd3) hg.1 hg.1, hdl]
      simp
      exact (e01.trans e13).trans e4
    · rw [hm] at hm'; cases hm'
  · simp [hm, cmp_isnone]
    exact e01.trans e2
mutual
theorem fill_dk {φ : Int → Option Kd} {m : Nat} (h : ∀ i k, φ i = some k → dk k ≤ m + 1) : ∀ κ : Kd, dk (fill φ κ) ≤ dk κ + m
  | .num => by simp only [fill]; omega
  | .opn i => by
    simp only [fill]
    rw [dk_opn]
    cases e : φ i with
    | none => simp only [Option.getD_none]; rw [dk_opn]; omega
    | some k => have := h i k e; simp only [Option.getD_some]; omega
  | .fn a b => by
    have := fill_dk h a; have := fill_dk h b
    simp only [fill]; rw [dk_fn, dk_fn]; omega
  | .ref a => by
    have := fill_dk h a
    simp only [fill]; rw [dk_ref, dk_ref]; omega
  | .made n ks => by
    have := fills_dk h ks
    simp only [fill]; rw [dk_made, dk_made]; omega
theorem fills_dk {φ : Int → Option Kd} {m : Nat} (h : ∀ i k, φ i = some k → dk k ≤ m + 1) : ∀ ks : List Kd, dks (fills φ ks) ≤ dks ks + m
  | [] => by simp only [fills]; rw [dks_nil]; omega
  | k :: ks => by
    have := fill_dk h k; have := fills_dk h ks
    simp only [fills]; rw [dks_cons, dks_cons]; omega
end
mutual
theorem fill_size {φ : Int → Option Kd} {m : Nat} (h0 : 1 ≤ m) (h : ∀ i k, φ i = some k → size k ≤ m) : ∀ κ : Kd, size (fill φ κ) ≤ size κ * m
  | .num => by simp only [fill, size]; omega
  | .opn i => by
    simp only [fill]
    cases e : φ i with
    | none => simp only [Option.getD_none, size]; omega
    | some k => have := h i k e; simp only [Option.getD_some, size]; omega
  | .fn a b => by
    have := fill_size h0 h a; have := fill_size h0 h b
    simp only [fill, size, Nat.add_mul, Nat.one_mul]; omega
  | .ref a => by
    have := fill_size h0 h a
    simp only [fill, size, Nat.add_mul, Nat.one_mul]; omega
  | .made n ks => by
    have := fills_size h0 h ks
    simp only [fill, size, Nat.add_mul, Nat.one_mul]; omega
theorem fills_size {φ : Int → Option Kd} {m : Nat} (h0 : 1 ≤ m) (h : ∀ i k, φ i = some k → size k ≤ m) : ∀ ks : List Kd, sizes (fills φ ks) ≤ sizes ks * m
  | [] => by simp [fills, sizes]
  | k :: ks => by
    have := fill_size h0 h k; have := fills_size h0 h ks
    simp only [fills, sizes, Nat.add_mul]; omega
end
/-- what the law fills with -/
theorem matched_fill {κ : Kd} {lf : Al} (hk : keysA lf = nub (opens κ)) : ∃ l, mch κ (fill (lk lf) κ) [] = some l ∧ deq l lf = true := by
  refine ⟨_, mt_fill κ [] (fun i κ e => by cases e), ?_⟩
  have hkeys : keysA (dda (lk lf) [] (opens κ)) = keysA lf := by
    rw [dda_keys, hk]; exact dd_nub _
  have hag := agr_dda (φ := lk lf) (opens κ) (acc := []) (fun i κ e => by cases e)
  generalize dda (lk lf) [] (opens κ) = l at hkeys hag
  have hn : (keysA l).Nodup := by rw [hkeys, hk]; exact nub_nodup _
  have hl : l.length = lf.length := by
    have := congrArg List.length hkeys
    simpa [keysA] using this
  simp only [deq, hl, beq_self_eq_true, Bool.true_and, List.all_eq_true]
  intro p hp
  have hpk : p.1 ∈ keysA lf := hkeys ▸ List.mem_map.mpr ⟨p, hp, rfl⟩
  obtain ⟨k, e⟩ := lk_some hpk
  have hpp : lk l p.1 = some p.2 := by
    have : ∀ (m : Al), (keysA m).Nodup → p ∈ m → lk m p.1 = some p.2 := by
      intro m
      induction m with
      | nil => intro _ h; cases h
      | cons q m ih =>
        obtain ⟨j, k⟩ := q
        intro hn hm
        simp only [keysA, List.map_cons, List.nodup_cons] at hn
        rcases List.mem_cons.mp hm with z | z
        · subst z; simp [lk]
        · have hne : ¬ j = p.1 := fun e => hn.1 (e ▸ List.mem_map.mpr ⟨p, z, rfl⟩)
          simp only [lk, if_neg hne]
          exact ih hn.2 z
    exact this l hn hp
  have := hag p.1 p.2 hpp
  rw [e] at this
  rw [e]
  simp only [Option.getD_some] at this
  simp only [this]
  exact keq_self _
end k13

set_option Elab.async false
set_option linter.all false
set_option maxRecDepth 10000
set_option maxHeartbeats 3200000
set_option autoImplicit false
namespace k13
open Rx
theorem KO.mono {m d m' d' : Nat} {κ : Kd} (h : KO m d κ) (h1 : m ≤ m') (h2 : d ≤ d') : KO m' d' κ := ⟨by have := h.1; omega, by have := h.2.1; omega, h.2.2⟩
/-- two kinds compared as the law does -/
theorem sp_pair {a b : Kd} {st : Store} {k : Nat} (ha : KO 10000 95 a) (hb : KO 10000 95 b) :
    W (callP P (k + 150) i_law_right [toD a, toD b] st) (fun r st' => Ext st st' ∧ r = .bl true) := by
  have := sp_right (k := k + 145) (κ := a) (o := b) (st := st) (by have := ha.2.1; omega) (by have := ha.2.1; omega) (by have := hb.2.1; omega) (by have := ha.1; omega) (by have := hb.1; omega) ha.2.2
  exact this
theorem sp_mtd {a b : Kd} {st : Store} {k : Nat} (ha : KO 10000 95 a) (hb : KO 10000 95 b) :
    W (callP P (k + 150) i_matched [toD a, toD b] st) (fun r st' => Ext st st' ∧ ((∃ l, mch a b [] = some l ∧ r = .loc st.length ∧ st'[st.length]? = some (dC l) ∧ Gd l) ∨ (mch a b [] = none ∧ r = .non))) := by
  have := sp_matched (k := k + 146) (κ := a) (o := b) (st := st) (by have := ha.2.1; omega) (by have := ha.2.1; omega) (by have := hb.2.1; omega) ha.2.2
  exact this
theorem dk_numb (κ : Kd) : dk (numb κ) ≤ dk κ := by
  have : ∀ i k, lk (nf (nub (opens κ)) 0) i = some k → dk k ≤ 0 + 1 := by
    have gen : ∀ (u : List Int) (m : Nat) i k, lk (nf u m) i = some k → dk k ≤ 0 + 1 := by
      intro u
      induction u with
      | nil => intro m i k h; cases h
      | cons x u ih =>
        intro m i k h
        simp only [nf, lk] at h
        split at h
        · cases h; rw [dk_opn]; omega
        · exact ih _ i k h
    exact gen _ _
  have := fill_dk this κ
  exact this
theorem sp_num {a : Kd} {st : Store} {k : Nat} (ha : KO 10000 95 a) : W (callP P (k + 150) i_numbered [toD a] st) (fun r st' => Ext st st' ∧ r = toD (numb a)) := by
  have := sp_numbered (k := k + 146) (κ := a) (st := st) (by have := ha.2.1; omega) (by have := ha.1; omega)
  exact this
def bodyFor : Ss := match c_law.body with
  | .cons (.for_ _ _ b) _ => b
  | _ => .nil
def tailA : Ss := dropS 4 bodyFor
def tailB : Ss := dropS 2 tailA
def tailC : Ss := dropS 4 tailB
theorem tail_c {ns : List Int} {κ an ot sp : Kd} {s : Store} {o1 o2 o3 o5 o6 o10 o11 o12 : Option D} (hκ : KO 10000 95 κ) (hA : KO 10000 95 an) (hO : KO 10000 95 ot) (hS : KO 10000 95 sp) :
    W (evSs (callP P 199) tailC [some (.ro (ns.map D.int)), o1, o2, o3, some (toD κ), o5, o6, some (toD ot), some (toD sp), some (toD an), o10, o11, o12] s)
      (fun f s' => ∃ o1 o2 o3 o4 o5 o6 o7 o8 o9 o10 o11 o12, f = .nx [some (.ro (ns.map D.int)), o1, o2, o3, o4, o5, o6, o7, o8, o9, o10, o11, o12]) := by
  have hC : tailC = .cons (.for_ (.nm 10) (.it (.lst false (.cons (.var 9) (.cons (.var 7) (.cons (.var 8) .nil))))) (.cons (.iff (.ors (.cons (.inot (.call i_law_right (.cons (.var 4) (.cons (.var 10) .nil)))) (.cons (.inot (.call i_law_right (.cons (.var 10) (.cons (.var 4) .nil)))) .nil))) (.cons (.ret (.lit (.bl false))) .nil) .nil)
    (.cons (.asg (.nm 11) (.ands (.cons (.cmp .isnot (.call i_matched (.cons (.var 4) (.cons (.var 10) .nil))) (.lit .non)) (.cons (.cmp .isnot (.call i_matched (.cons (.var 10) (.cons (.var 4) .nil))) (.lit .non)) .nil))))
    (.cons (.iff (.cmp .ne (.var 11) (.cmp .eq (.call i_numbered (.cons (.var 4) .nil)) (.call i_numbered (.cons (.var 10) .nil)))) (.cons (.ret (.lit (.bl false))) .nil) .nil) .nil)))) .nil := rfl
  rw [hC, W_seq]
  simp [evS, evE, evEs, evI, itOf, wlkL]
  refine W_forD (fun _ ρ s => ∃ o10 o11, ρ = [some (.ro (ns.map D.int)), o1, o2, o3, some (toD κ), o5, o6, some (toD ot), some (toD sp), some (toD an), o10, o11, o12]) ⟨_, _, rfl⟩ (fun _ _ _ _ => rfl) ?_ ?_
  · rintro dn x ts hd ρ s ⟨o10, o11, rfl⟩
    have hx : ∃ o, x = toD o ∧ KO 10000 95 o := by
      have : x ∈ dn ++ x :: ts := by simp
      rw [← hd] at this
      simp at this
      rcases this with rfl | rfl | rfl
      · exact ⟨_, rfl, hA⟩
      · exact ⟨_, rfl, hO⟩
      · exact ⟨_, rfl, hS⟩
    obtain ⟨o, rfl, ho⟩ := hx
    simp [evSs, evS, evE, evEs, evOr, evAnd]
    refine (sp_pair (k := 49) hκ ho).mono ?_
    rintro _ s4 ⟨e4, rfl⟩
    simp
    refine (sp_pair (k := 49) ho hκ).mono ?_
    rintro _ s5 ⟨e5, rfl⟩
    simp
    have hbi := both_iff (k := κ) (o := o)
    have fin : ∀ (b : Bool) (s : Store), ((mch κ o []).isSome && (mch o κ []).isSome) = b → W (callP P 199 i_numbered [toD κ] s) fun a st =>
        W (callP P 199 i_numbered [toD o] st) fun a_1 st => W (Res.of (Option.map D.bl (cmpV Co.eq a a_1 st)) st) fun a st =>
              W (Res.of (Option.map D.bl (cmpV Co.ne (D.bl b) a st)) st) fun a st => W (boolOf a st) fun a st => a = false := by
      intro b s hb
      refine (sp_num (k := 49) hκ).mono ?_
      rintro _ s6 ⟨e6, rfl⟩
      refine (sp_num (k := 49) ho).mono ?_
      rintro _ s7 ⟨e7, rfl⟩
      rw [cmp_keq (by have := dk_numb κ; have := hκ.2.1; omega) (by have := dk_numb o; have := ho.2.1; omega)]
      simp
      rw [← hbi, hb]
    refine (sp_mtd (k := 49) hκ ho).mono ?_
    rintro r1 s6 ⟨e6, h1⟩
    rcases h1 with ⟨l, h1, rfl, _, _⟩ | ⟨h1, rfl⟩
    · simp [cmp_notnone]
      refine (sp_mtd (k := 49) ho hκ).mono ?_
      rintro r2 s7 ⟨e7, h2⟩
      rcases h2 with ⟨l2, h2, rfl, _, _⟩ | ⟨h2, rfl⟩
      · simp [cmp_notnone]
        exact fin true s7 (by rw [h1, h2]; rfl)
      · simp [cmp_notnone]
        exact fin false s7 (by rw [h1, h2]; rfl)
    · simp [cmp_notnone]
      exact fin false s6 (by rw [h1]; rfl)
  · rintro ρ s ⟨o10, o11, rfl⟩
    simp [evSs_nil]
/-- behind the filling -/
theorem tail_b {ns : List Int} {v : Int} {n m : Nat} {nm : D} {κ : Kd} {lf : Al} {s : Store} {o6 : Option D} {o7 o8 o9 o10 o11 o12 : Option D} (hb : Bx n s) (hv : Nms nm) (hκ : KO 300 86 κ) (hf : s[m]? = some (dC lf)) (hmn : m ≠ n) (hkeys : keysA lf = nub (opens κ)) (hlf : ∀ p ∈ lf, KO 7 5 p.2) :
    W (evSs (callP P 199) tailB [some (.ro (ns.map D.int)), some (.int v), some (.loc n), some nm, some (toD κ), some (.loc m), o6, o7, o8, o9, o10, o11, o12] s)
      (fun f s' => ∃ o1 o2 o3 o4 o5 o6 o7 o8 o9 o10 o11 o12, f = .nx [some (.ro (ns.map D.int)), o1, o2, o3, o4, o5, o6, o7, o8, o9, o10, o11, o12]) := by
  have hB : tailB = .cons (.asg (.nm 7) (.call i_filled (.cons (.var 4) (.cons (.var 5) .nil))))
    (.cons (.asg (.nm 8) (.call i_law_spoilt (.cons (.var 2) (.cons (.var 7) (.cons (.var 3) .nil)))))
    (.cons (.asg (.nm 9) (.call i_law_kind (.cons (.var 2) (.cons (.var 3) (.cons (.lit (.int 5)) (.cons (.lit (.int 4)) .nil))))))
    (.cons (.iff (.ors (.cons (.cmp .ne (.call i_matched (.cons (.var 4) (.cons (.var 7) .nil))) (.var 5)) (.cons (.inot (.call i_law_right (.cons (.var 4) (.cons (.var 8) .nil)))) (.cons (.inot (.call i_law_right (.cons (.var 8) (.cons (.var 4) .nil)))) .nil)))) (.cons (.ret (.lit (.bl false))) .nil) .nil)
      tailC))) := rfl
  rw [hB, W_seq]
  simp [evS, evE, evEs]
  refine (sp_filled 197 κ lf m s (by have := hκ.2.1; omega) (by have := hκ.1; omega) hf).mono ?_
  rintro _ _ ⟨rfl, rfl⟩
  rename_i s
  have hO : KO 2100 90 (fill (lk lf) κ) := by
    have hval : ∀ i k, lk lf i = some k → KO 7 5 k := fun i k e => hlf _ (lk_mem e)
    refine ⟨?_, ?_, ?_⟩
    · have := fill_size (φ := lk lf) (m := 7) (by omega) (fun i k e => (hval i k e).1) κ
      have := hκ.1
      omega
    · have := fill_dk (φ := lk lf) (m := 4) (fun i k e => (hval i k e).2.1) κ
      have := hκ.2.1
      omega
    · intro j hj
      rw [opens_fill] at hj
      obtain ⟨l, hl, hj⟩ := List.mem_flatten.mp hj
      obtain ⟨i, hi, rfl⟩ := List.mem_map.mp hl
      have him : i ∈ keysA lf := by rw [hkeys]; exact mem_nub.mpr hi
      obtain ⟨k, e⟩ := lk_some him
      rw [e] at hj
      exact (hval i k e).2.2 j hj
  obtain ⟨lm, hm1, hm2⟩ := matched_fill hkeys
  generalize fill (lk lf) κ = ot at hO hm1
  rw [W_seq]
  simp [evS, evE, evEs]
  refine (sp_spoilt 193 ot n nm s (by have := hO.2.1; omega) (by have := hO.1; omega) hO.2.2 hb hv).mono ?_
  rintro _ s1 ⟨c1, sp, rfl, q1, q2, q3⟩
  have hS : KO 10000 95 sp := ⟨by have := hO.1; omega, by have := hO.2.1; omega, q3⟩
  have hO : KO 10000 95 ot := hO.mono (by omega) (by omega)
  have hκ : KO 10000 95 κ := hκ.mono (by omega) (by omega)
  rw [W_seq]
  simp [evS, evE, evEs]
  refine (sp_kind 4 192 c1.box hv (by omega) (by omega)).mono ?_
  rintro _ s2 ⟨c2, an, rfl, hA⟩
  have hA : KO 10000 95 an := hA.mono (by omega) (by omega)
  rw [W_seq]
  simp [evS, evE, evEs, evOr]
  have hf2 := c2.at hmn (c1.at hmn hf)
  refine (sp_mtd (k := 49) hκ hO).mono ?_
  rintro r s3 ⟨e3, hr⟩
  rw [hm1] at hr
  rcases hr with ⟨l, hl, rfl, hl2, hg⟩ | ⟨hl, _⟩
  · cases hl
    rw [cmp_neD hl2 (e3 _ _ hf2) hg.1 (fun p hp => by have := (hlf p hp).2.1; omega), hm2]
    simp
    refine (sp_pair (k := 49) hκ hS).mono ?_
    rintro _ s4 ⟨e4, rfl⟩
    simp
    refine (sp_pair (k := 49) hS hκ).mono ?_
    rintro _ s5 ⟨e5, rfl⟩
    simp [evSs_nil]
    exact tail_c hκ hA hO hS
  · cases hl
theorem tail_a {ns : List Int} {v : Int} {n : Nat} {nm : D} {κ : Kd} {s : Store} {o5 o6 o7 o8 o9 o10 o11 o12 : Option D} (hb : Bx n s) (hv : Nms nm) (hκ : KO 300 86 κ) :
    W (evSs (callP P 199) tailA [some (.ro (ns.map D.int)), some (.int v), some (.loc n), some nm, some (toD κ), o5, o6, o7, o8, o9, o10, o11, o12] s)
      (fun f s' => ∃ o1 o2 o3 o4 o5 o6 o7 o8 o9 o10 o11 o12, f = .nx [some (.ro (ns.map D.int)), o1, o2, o3, o4, o5, o6, o7, o8, o9, o10, o11, o12]) := by
  have hA : tailA = .cons (.asg (.nm 5) (.dct true .nil))
    (.cons (.for_ (.nm 6) (.it (.call i_opens_in (.cons (.var 4) .nil))) (.cons (.put (.var 5) (.var 6) (.call i_law_kind (.cons (.var 2) (.cons (.var 3) (.cons (.lit (.int 5)) (.cons (.lit (.int 2)) .nil)))))) .nil)) tailB) := rfl
  rw [hA, W_seq]
  simp [evS, evE, evEs, pairsD]
  rw [W_seq]
  simp [evS, evE, evEs, evI]
  have c0 : Ch n s (s ++ [.dct [] []]) := (Chg.refl hb).app
  have hsn : s.length ≠ n := by have := hb.lt; omega
  refine (sp_opens_in 197 κ _ (by have := hκ.2.1; omega) (by have := hκ.1; omega)).mono ?_
  rintro _ s1 ⟨e1, rfl⟩
  have hn1 : s1[s.length]? = some (dC []) := e1 _ _ (by simp [dC])
  have hb1 : Bx n s1 := by
    obtain ⟨cc, h1, h2⟩ := c0.box
    exact ⟨cc, e1 _ _ h1, h2⟩
  have hu := nub_nodup (opens κ)
  have hul : (nub (opens κ)).length ≤ 5 := by
    have := nodup_len (m := [0, 1, 2, 3, 4]) hu fun x hx => by
      have := hκ.2.2 x (mem_nub.mp hx)
      simp; omega
    simpa using this
  simp [itOf]
  refine W_for (fun r ρ s' => ∃ pre post lf, nub (opens κ) = pre ++ post ∧ r = Ints post ∧ Bx n s' ∧ s'[s.length]? = some (dC lf) ∧ keysA lf = pre ∧ (∀ p ∈ lf, KO 7 5 p.2) ∧
    ∃ o6, ρ = [some (.ro (ns.map D.int)), some (.int v), some (.loc n), some nm, some (toD κ), some (.loc s.length), o6, o7, o8, o9, o10, o11, o12]) (fun _ _ _ _ => rfl) ?_ ?_ _ _ _
    ⟨[], nub (opens κ), [], rfl, rfl, hb1, hn1, rfl, by simp, _, rfl⟩
  · rintro x r ρ s2 ⟨pre, post, lf, hpp, hr, hb2, hm2, hk2, hlf, o6', rfl⟩
    rcases post with _ | ⟨i, post⟩
    · simp [Ints] at hr
    simp only [Ints, List.map_cons, List.cons.injEq] at hr
    obtain ⟨rfl, rfl⟩ := hr
    simp [evSs, evS, evE, evEs]
    refine (sp_kind 2 194 hb2 hv (by omega) (by omega)).mono ?_
    rintro _ s3 ⟨c3, κ', rfl, hκ'⟩
    have hκ' : KO 7 5 κ' := hκ'.mono (by omega) (by omega)
    have hni : i ∉ keysA lf := by
      rw [hk2]
      rw [hpp, List.nodup_append] at hu
      exact fun hm => hu.2.2 i hm i (by simp) rfl
    have hm3 := c3.at hsn hm2
    have hlen : lf.length < LINE := by
      have : lf.length = pre.length := by rw [← hk2]; simp [keysA]
      rw [hpp] at hul; simp at hul
      simp only [LINE]; omega
    simp [put_dC hm3 hlen hni]
    have hlt := (List.getElem?_eq_some_iff.mp hm3).1
    refine ⟨pre ++ [i], post, by simp [hpp], rfl, ?_, lf ++ [(i, κ')], by simp [hlt], by simp [keysA] at hk2 ⊢; simp [hk2], fun p q hp => ?_⟩
    · obtain ⟨cc, h1, h2⟩ := c3.box
      exact ⟨cc, by rw [List.getElem?_set_ne hsn]; exact h1, h2⟩
    · have hp : (p, q) ∈ lf ∨ p = i ∧ q = κ' := by simpa using hp
      rcases hp with z | ⟨_, rfl⟩
      · exact hlf (p, q) z
      · exact hκ'
  · rintro ρ s2 ⟨pre, post, lf, hpp, hr, hb2, hm2, hk2, hlf, o6', rfl⟩
    have : post = [] := by
      rcases post with _ | ⟨i, post⟩
      · rfl
      · simp [Ints] at hr
    subst this
    rw [List.append_nil] at hpp
    exact tail_b hb2 hv hκ hm2 hsn (by rw [hk2, hpp]) hlf
theorem sp_law {ns : List Int} {st : Store} : W (callP P 200 i_law [.ro (ns.map D.int)] st) (fun v st' => v = .bl true) := by
  rw [callP_succ (show P[i_law]? = some c_law from rfl), runB_eq rfl]
  have hb : c_law.body = .cons (.for_ (.nm 1) (.rng (.bi .max false (.cons (.lit (.int 3)) (.cons (.bi .min false (.cons (.lit (.int 20)) (.cons (.bi .len false (.cons (.var 0) .nil)) .nil))) .nil)))) bodyFor) (.cons (.ret (.lit (.bl true))) .nil) := rfl
  have hbf : bodyFor = .cons (.asg (.nm 2) (.call i_law_box (.cons (.var 0) (.cons (.var 1) .nil))))
    (.cons (.asg (.nm 3) (.lc false (.call i_law_name (.cons (.var 2) .nil)) (.nm 12) (.rng (.lit (.int 3))) .non [12]))
    (.cons (.asg (.nm 4) (.call i_law_kind (.cons (.var 2) (.cons (.var 3) (.cons (.lit (.int 5)) (.cons (.lit (.int 4)) .nil))))))
    (.cons (.iff (.cmp .eq (.call i_law_take (.cons (.var 2) (.cons (.lit (.int 8)) .nil))) (.lit (.int 0))) (.cons (.asg (.nm 4) (.call i_law_deep (.cons (.var 2) (.cons (.var 3) (.cons (.lit (.int 4)) .nil))))) .nil) .nil) tailA))) := rfl
  rw [hb, W_bind, W_seq]
  simp [c_law, startD, evS, evE, evEs, evI]
  refine ⟨by split <;> split <;> omega, ?_⟩
  refine W_for (fun r ρ s => (∀ x ∈ r, ∃ v : Int, x = .int v ∧ 0 ≤ v) ∧ ∃ o1 o2 o3 o4 o5 o6 o7 o8 o9 o10 o11 o12, ρ = [some (.ro (ns.map D.int)), o1, o2, o3, o4, o5, o6, o7, o8, o9, o10, o11, o12]) (fun _ _ _ _ => rfl) ?_ ?_ _ _ _ ?_
  · rintro x r ρ s ⟨hr, o1, o2, o3, o4, o5, o6, o7, o8, o9, o10, o11, o12, rfl⟩
    obtain ⟨v, rfl, v0⟩ := hr x (by simp)
    simp
    rw [hbf, W_seq]
    simp [evS, evE, evEs]
    refine (sp_box (k := 197) v0).mono ?_
    rintro _ _ ⟨rfl, c, hc, rfl⟩
    have b0 : Bx s.length (s ++ [c]) := ⟨c, by simp, hc⟩
    rw [W_seq]
    simp [evS, evE, evEs, evI, evC]
    refine W_lc (fun r acc s' => Ch s.length (s ++ [c]) s' ∧ acc.length + r.length = 3 ∧ Txts 13 acc) (fun _ _ _ _ => rfl) ?_ ?_ _ _ _ ⟨Chg.refl b0, by simp [rng_len], Txts.nil⟩
    · rintro x r acc s' ⟨c1, hl, ha⟩
      simp only [List.length_cons] at hl
      simp [wipeD]
      refine (sp_name (k := 195) c1.box).mono ?_
      rintro _ s2 ⟨c2, t, rfl, ht⟩
      exact ⟨by simp only [LINE]; omega, c1.trans c2, by omega, ha.app (Txts.one ht)⟩
    · rintro acc s1 ⟨c1, hl, ha⟩
      have hv : Nms (.lst acc) := by
        obtain ⟨ls, _, rfl, _⟩ := txts_of ha
        simp only [List.length_map, List.length_nil, Nat.add_zero] at hl
        rcases ls with _ | ⟨a, _ | ⟨b, _ | ⟨d, _ | ⟨e, r⟩⟩⟩⟩ <;> simp at hl
        exact ⟨a, b, d, rfl⟩
      rw [W_seq]
      simp [evS, evE, evEs]
      refine (sp_kind 4 192 c1.box hv (by omega) (by omega)).mono ?_
      rintro _ s2 ⟨c2, κ0, rfl, hκ0⟩
      have hκ0 : KO 300 86 κ0 := hκ0.mono (by omega) (by omega)
      rw [W_seq]
      simp [evS, evE, evEs]
      refine (sp_take (k := 197) c2.box (by omega) (by omega)).mono ?_
      rintro _ s3 ⟨c3, j, rfl, j0, j1⟩
      simp
      have fin : ∀ (κ : Kd) (s4 : Store), KO 300 86 κ → Bx s.length s4 → W (evSs (callP P 199) tailA [some (.ro (ns.map D.int)), some (.int v), some (.loc s.length), some (.lst acc), some (toD κ), o5, o6, o7, o8, o9, o10, o11, o12] s4) (fun o s' => match o with
          | .nx ρ => (∀ x ∈ r, ∃ v : Int, x = .int v ∧ 0 ≤ v) ∧ ∃ o1 o2 o3 o4 o5 o6 o7 o8 o9 o10 o11 o12, ρ = [some (.ro (ns.map D.int)), o1, o2, o3, o4, o5, o6, o7, o8, o9, o10, o11, o12]
          | .rt v => v = .bl true) := fun κ s4 hκ hb4 => (tail_a hb4 hv hκ).mono fun f s' h => by
        obtain ⟨o1, o2, o3, o4, o5, o6, o7, o8, o9, o10, o11, o12, rfl⟩ := h
        exact ⟨fun x hx => hr x (by simp [hx]), _, _, _, _, _, _, _, _, _, _, _, _, rfl⟩
      split
      · rw [W_seq]
        simp [evS, evE, evEs, evSs_nil]
        refine (sp_deep (k := 196) c3.box hv).mono ?_
        rintro _ s4 ⟨c4, κ, rfl, hκ⟩
        exact fin κ s4 hκ c4.box
      · rw [evSs_nil]
        exact fin κ0 s3 hκ0 c3.box
  · rintro ρ s ⟨hr, o1, o2, o3, o4, o5, o6, o7, o8, o9, o10, o11, o12, rfl⟩
    simp [evSs, evS, evE]
  · refine ⟨fun x hx => ?_, _, _, _, _, _, _, _, _, _, _, _, _, rfl⟩
    unfold rng at hx
    obtain ⟨u, hu, rfl⟩ := List.mem_map.mp hx
    exact ⟨_, rfl, by omega⟩
end k13

set_option maxRecDepth 100000
namespace k13
open PySem L2 Rx
def top (i : Nat) : PySem.Stmt := PySem.Challenge.pw_kindworks_k13_whole_kinds_matched.main.body.getD i (.Pass ⟨0, 0, 0, 0⟩)
def T : Tab := ⟨["within", "opens_in", "with_within", "filled", "heads_alike", "matches", "matched", "numbered", "_law_cell", "_law_mixed", "_law_box", "_law_take", "_law_word", "_law_name", "_law_kind", "_law_deep", "_law_within", "_law_with", "_law_spoilt", "_law_fits", "_law_right", "law"],
  [],
  ["dict", "enumerate", "isinstance", "len", "list", "max", "min", "range", "sorted", "tuple", "zip"]⟩
def ds : List Df := [⟨"within", top 1, c_within, N_within⟩, ⟨"opens_in", top 2, c_opens_in, N_opens_in⟩, ⟨"with_within", top 3, c_with_within, N_with_within⟩, ⟨"filled", top 4, c_filled, N_filled⟩, ⟨"heads_alike", top 5, c_heads_alike, N_heads_alike⟩, ⟨"matches", top 6, c_matches, N_matches⟩, ⟨"matched", top 7, c_matched, N_matched⟩, ⟨"numbered", top 8, c_numbered, N_numbered⟩, ⟨"_law_cell", top 10, c_law_cell, N_law_cell⟩, ⟨"_law_mixed", top 11, c_law_mixed, N_law_mixed⟩, ⟨"_law_box", top 12, c_law_box, N_law_box⟩, ⟨"_law_take", top 13, c_law_take, N_law_take⟩, ⟨"_law_word", top 14, c_law_word, N_law_word⟩, ⟨"_law_name", top 15, c_law_name, N_law_name⟩, ⟨"_law_kind", top 16, c_law_kind, N_law_kind⟩, ⟨"_law_deep", top 17, c_law_deep, N_law_deep⟩, ⟨"_law_within", top 18, c_law_within, N_law_within⟩, ⟨"_law_with", top 19, c_law_with, N_law_with⟩, ⟨"_law_spoilt", top 20, c_law_spoilt, N_law_spoilt⟩, ⟨"_law_fits", top 21, c_law_fits, N_law_fits⟩, ⟨"_law_right", top 22, c_law_right, N_law_right⟩, ⟨"law", top 23, c_law, N_law⟩]
theorem ok_within : okDf T ⟨"within", top 1, c_within, N_within⟩ = true := by decide +kernel
theorem b_within {K : PySem.W.Frag} {f : Addr} {fd : FuncData} (F : Fun K "within" "within" (top 1) f fd) : Binds K fd ["kind"] [] := F.binds fun _ _ _ _ _ _ us hl => match us, hl with | [_], _ => rfl
theorem ok_opens_in : okDf T ⟨"opens_in", top 2, c_opens_in, N_opens_in⟩ = true := by decide +kernel
theorem b_opens_in {K : PySem.W.Frag} {f : Addr} {fd : FuncData} (F : Fun K "opens_in" "opens_in" (top 2) f fd) : Binds K fd ["kind"] [] := F.binds fun _ _ _ _ _ _ us hl => match us, hl with | [_], _ => rfl
theorem ok_with_within : okDf T ⟨"with_within", top 3, c_with_within, N_with_within⟩ = true := by decide +kernel
theorem b_with_within {K : PySem.W.Frag} {f : Addr} {fd : FuncData} (F : Fun K "with_within" "with_within" (top 3) f fd) : Binds K fd ["kind", "kinds"] [] := F.binds fun _ _ _ _ _ _ us hl => match us, hl with | [_, _], _ => rfl
theorem ok_filled : okDf T ⟨"filled", top 4, c_filled, N_filled⟩ = true := by decide +kernel
theorem b_filled {K : PySem.W.Frag} {f : Addr} {fd : FuncData} (F : Fun K "filled" "filled" (top 4) f fd) : Binds K fd ["kind", "filling"] [] := F.binds fun _ _ _ _ _ _ us hl => match us, hl with | [_, _], _ => rfl
theorem ok_heads_alike : okDf T ⟨"heads_alike", top 5, c_heads_alike, N_heads_alike⟩ = true := by decide +kernel
theorem b_heads_alike {K : PySem.W.Frag} {f : Addr} {fd : FuncData} (F : Fun K "heads_alike" "heads_alike" (top 5) f fd) : Binds K fd ["one", "other"] [] := F.binds fun _ _ _ _ _ _ us hl => match us, hl with | [_, _], _ => rfl
theorem ok_matches : okDf T ⟨"matches", top 6, c_matches, N_matches⟩ = true := by decide +kernel
theorem b_matches {K : PySem.W.Frag} {f : Addr} {fd : FuncData} (F : Fun K "matches" "matches" (top 6) f fd) : Binds K fd ["kind", "other", "found"] [] := F.binds fun _ _ _ _ _ _ us hl => match us, hl with | [_, _, _], _ => rfl
theorem ok_matched : okDf T ⟨"matched", top 7, c_matched, N_matched⟩ = true := by decide +kernel
theorem b_matched {K : PySem.W.Frag} {f : Addr} {fd : FuncData} (F : Fun K "matched" "matched" (top 7) f fd) : Binds K fd ["kind", "other"] [] := F.binds fun _ _ _ _ _ _ us hl => match us, hl with | [_, _], _ => rfl
theorem ok_numbered : okDf T ⟨"numbered", top 8, c_numbered, N_numbered⟩ = true := by decide +kernel
theorem b_numbered {K : PySem.W.Frag} {f : Addr} {fd : FuncData} (F : Fun K "numbered" "numbered" (top 8) f fd) : Binds K fd ["kind"] [] := F.binds fun _ _ _ _ _ _ us hl => match us, hl with | [_], _ => rfl
theorem ok_law_cell : okDf T ⟨"_law_cell", top 10, c_law_cell, N_law_cell⟩ = true := by decide +kernel
theorem b_law_cell {K : PySem.W.Frag} {f : Addr} {fd : FuncData} (F : Fun K "_law_cell" "_law_cell" (top 10) f fd) : Binds K fd ["script", "k"] [] := F.binds fun _ _ _ _ _ _ us hl => match us, hl with | [_, _], _ => rfl
theorem ok_law_mixed : okDf T ⟨"_law_mixed", top 11, c_law_mixed, N_law_mixed⟩ = true := by decide +kernel
theorem b_law_mixed {K : PySem.W.Frag} {f : Addr} {fd : FuncData} (F : Fun K "_law_mixed" "_law_mixed" (top 11) f fd) : Binds K fd ["cell", "k"] [] := F.binds fun _ _ _ _ _ _ us hl => match us, hl with | [_, _], _ => rfl
theorem ok_law_box : okDf T ⟨"_law_box", top 12, c_law_box, N_law_box⟩ = true := by decide +kernel
theorem b_law_box {K : PySem.W.Frag} {f : Addr} {fd : FuncData} (F : Fun K "_law_box" "_law_box" (top 12) f fd) : Binds K fd ["script", "k"] [] := F.binds fun _ _ _ _ _ _ us hl => match us, hl with | [_, _], _ => rfl
theorem ok_law_take : okDf T ⟨"_law_take", top 13, c_law_take, N_law_take⟩ = true := by decide +kernel
theorem b_law_take {K : PySem.W.Frag} {f : Addr} {fd : FuncData} (F : Fun K "_law_take" "_law_take" (top 13) f fd) : Binds K fd ["box", "many"] [] := F.binds fun _ _ _ _ _ _ us hl => match us, hl with | [_, _], _ => rfl
theorem ok_law_word : okDf T ⟨"_law_word", top 14, c_law_word, N_law_word⟩ = true := by decide +kernel
theorem b_law_word {K : PySem.W.Frag} {f : Addr} {fd : FuncData} (F : Fun K "_law_word" "_law_word" (top 14) f fd) : Binds K fd ["box"] [] := F.binds fun _ _ _ _ _ _ us hl => match us, hl with | [_], _ => rfl
theorem ok_law_name : okDf T ⟨"_law_name", top 15, c_law_name, N_law_name⟩ = true := by decide +kernel
theorem b_law_name {K : PySem.W.Frag} {f : Addr} {fd : FuncData} (F : Fun K "_law_name" "_law_name" (top 15) f fd) : Binds K fd ["box"] [] := F.binds fun _ _ _ _ _ _ us hl => match us, hl with | [_], _ => rfl
theorem ok_law_kind : okDf T ⟨"_law_kind", top 16, c_law_kind, N_law_kind⟩ = true := by decide +kernel
theorem b_law_kind {K : PySem.W.Frag} {f : Addr} {fd : FuncData} (F : Fun K "_law_kind" "_law_kind" (top 16) f fd) : Binds K fd ["box", "names", "most", "deep"] [] := F.binds fun _ _ _ _ _ _ us hl => match us, hl with | [_, _, _, _], _ => rfl
theorem ok_law_deep : okDf T ⟨"_law_deep", top 17, c_law_deep, N_law_deep⟩ = true := by decide +kernel
theorem b_law_deep {K : PySem.W.Frag} {f : Addr} {fd : FuncData} (F : Fun K "_law_deep" "_law_deep" (top 17) f fd) : Binds K fd ["box", "names", "most"] [] := F.binds fun _ _ _ _ _ _ us hl => match us, hl with | [_, _, _], _ => rfl
theorem ok_law_within : okDf T ⟨"_law_within", top 18, c_law_within, N_law_within⟩ = true := by decide +kernel
theorem b_law_within {K : PySem.W.Frag} {f : Addr} {fd : FuncData} (F : Fun K "_law_within" "_law_within" (top 18) f fd) : Binds K fd ["kind"] [] := F.binds fun _ _ _ _ _ _ us hl => match us, hl with | [_], _ => rfl
theorem ok_law_with : okDf T ⟨"_law_with", top 19, c_law_with, N_law_with⟩ = true := by decide +kernel
theorem b_law_with {K : PySem.W.Frag} {f : Addr} {fd : FuncData} (F : Fun K "_law_with" "_law_with" (top 19) f fd) : Binds K fd ["kind", "kinds"] [] := F.binds fun _ _ _ _ _ _ us hl => match us, hl with | [_, _], _ => rfl
theorem ok_law_spoilt : okDf T ⟨"_law_spoilt", top 20, c_law_spoilt, N_law_spoilt⟩ = true := by decide +kernel
theorem b_law_spoilt {K : PySem.W.Frag} {f : Addr} {fd : FuncData} (F : Fun K "_law_spoilt" "_law_spoilt" (top 20) f fd) : Binds K fd ["box", "kind", "names"] [] := F.binds fun _ _ _ _ _ _ us hl => match us, hl with | [_, _, _], _ => rfl
theorem ok_law_fits : okDf T ⟨"_law_fits", top 21, c_law_fits, N_law_fits⟩ = true := by decide +kernel
theorem b_law_fits {K : PySem.W.Frag} {f : Addr} {fd : FuncData} (F : Fun K "_law_fits" "_law_fits" (top 21) f fd) : Binds K fd ["kind", "other", "found"] [] := F.binds fun _ _ _ _ _ _ us hl => match us, hl with | [_, _, _], _ => rfl
theorem ok_law_right : okDf T ⟨"_law_right", top 22, c_law_right, N_law_right⟩ = true := by decide +kernel
theorem b_law_right {K : PySem.W.Frag} {f : Addr} {fd : FuncData} (F : Fun K "_law_right" "_law_right" (top 22) f fd) : Binds K fd ["kind", "other"] [] := F.binds fun _ _ _ _ _ _ us hl => match us, hl with | [_, _], _ => rfl
theorem ok_law : okDf T ⟨"law", top 23, c_law, N_law⟩ = true := by decide +kernel
theorem b_law {K : PySem.W.Frag} {f : Addr} {fd : FuncData} (F : Fun K "law" "law" (top 23) f fd) : Binds K fd ["script"] [] := F.binds fun _ _ _ _ _ _ us hl => match us, hl with | [_], _ => rfl
set_option maxHeartbeats 4000000 in
theorem env {K : PySem.W.Frag} {h : Heap} {mg : Str → Option Value} (KX : K.In h) (G : h.Ns mainGlobals mg)
    {f0 : Addr} {od0 an0 : Option Addr} {sl0 : Array (Option Value)} {oc0 kV0 dc0 pm0 cd0 ct0 : Value}
    {f1 : Addr} {od1 an1 : Option Addr} {sl1 : Array (Option Value)} {oc1 kV1 dc1 pm1 cd1 ct1 : Value}
    {f2 : Addr} {od2 an2 : Option Addr} {sl2 : Array (Option Value)} {oc2 kV2 dc2 pm2 cd2 ct2 : Value}
    {f3 : Addr} {od3 an3 : Option Addr} {sl3 : Array (Option Value)} {oc3 kV3 dc3 pm3 cd3 ct3 : Value}
    {f4 : Addr} {od4 an4 : Option Addr} {sl4 : Array (Option Value)} {oc4 kV4 dc4 pm4 cd4 ct4 : Value}
    {f5 : Addr} {od5 an5 : Option Addr} {sl5 : Array (Option Value)} {oc5 kV5 dc5 pm5 cd5 ct5 : Value}
    {f6 : Addr} {od6 an6 : Option Addr} {sl6 : Array (Option Value)} {oc6 kV6 dc6 pm6 cd6 ct6 : Value}
    {f7 : Addr} {od7 an7 : Option Addr} {sl7 : Array (Option Value)} {oc7 kV7 dc7 pm7 cd7 ct7 : Value}
    {f8 : Addr} {od8 an8 : Option Addr} {sl8 : Array (Option Value)} {oc8 kV8 dc8 pm8 cd8 ct8 : Value}
    {f9 : Addr} {od9 an9 : Option Addr} {sl9 : Array (Option Value)} {oc9 kV9 dc9 pm9 cd9 ct9 : Value}
    {f10 : Addr} {od10 an10 : Option Addr} {sl10 : Array (Option Value)} {oc10 kV10 dc10 pm10 cd10 ct10 : Value}
    {f11 : Addr} {od11 an11 : Option Addr} {sl11 : Array (Option Value)} {oc11 kV11 dc11 pm11 cd11 ct11 : Value}
    {f12 : Addr} {od12 an12 : Option Addr} {sl12 : Array (Option Value)} {oc12 kV12 dc12 pm12 cd12 ct12 : Value}
    {f13 : Addr} {od13 an13 : Option Addr} {sl13 : Array (Option Value)} {oc13 kV13 dc13 pm13 cd13 ct13 : Value}
    {f14 : Addr} {od14 an14 : Option Addr} {sl14 : Array (Option Value)} {oc14 kV14 dc14 pm14 cd14 ct14 : Value}
    {f15 : Addr} {od15 an15 : Option Addr} {sl15 : Array (Option Value)} {oc15 kV15 dc15 pm15 cd15 ct15 : Value}
    {f16 : Addr} {od16 an16 : Option Addr} {sl16 : Array (Option Value)} {oc16 kV16 dc16 pm16 cd16 ct16 : Value}
    {f17 : Addr} {od17 an17 : Option Addr} {sl17 : Array (Option Value)} {oc17 kV17 dc17 pm17 cd17 ct17 : Value}
    {f18 : Addr} {od18 an18 : Option Addr} {sl18 : Array (Option Value)} {oc18 kV18 dc18 pm18 cd18 ct18 : Value}
    {f19 : Addr} {od19 an19 : Option Addr} {sl19 : Array (Option Value)} {oc19 kV19 dc19 pm19 cd19 ct19 : Value}
    {f20 : Addr} {od20 an20 : Option Addr} {sl20 : Array (Option Value)} {oc20 kV20 dc20 pm20 cd20 ct20 : Value}
    {f21 : Addr} {od21 an21 : Option Addr} {sl21 : Array (Option Value)} {oc21 kV21 dc21 pm21 cd21 ct21 : Value}
    (a0 : PySem.W.nsIn K mainGlobals "within" = some (some (.ref f0))) (l0 : K.lookup f0 = some ⟨oc0, od0, .func (PySem.W.fnOf "within" "within" (defArgs (top 1)) (defBody (top 1)) (defScope (top 1)) .none kV0 dc0 pm0 an0 cd0 ct0), sl0⟩) (c0 : PySem.W.codeIn K cd0 "within" = true) (k0 : PySem.W.keepIn K (.ref f0) = true)
    (a1 : PySem.W.nsIn K mainGlobals "opens_in" = some (some (.ref f1))) (l1 : K.lookup f1 = some ⟨oc1, od1, .func (PySem.W.fnOf "opens_in" "opens_in" (defArgs (top 2)) (defBody (top 2)) (defScope (top 2)) .none kV1 dc1 pm1 an1 cd1 ct1), sl1⟩) (c1 : PySem.W.codeIn K cd1 "opens_in" = true) (k1 : PySem.W.keepIn K (.ref f1) = true)
    (a2 : PySem.W.nsIn K mainGlobals "with_within" = some (some (.ref f2))) (l2 : K.lookup f2 = some ⟨oc2, od2, .func (PySem.W.fnOf "with_within" "with_within" (defArgs (top 3)) (defBody (top 3)) (defScope (top 3)) .none kV2 dc2 pm2 an2 cd2 ct2), sl2⟩) (c2 : PySem.W.codeIn K cd2 "with_within" = true) (k2 : PySem.W.keepIn K (.ref f2) = true)
    (a3 : PySem.W.nsIn K mainGlobals "filled" = some (some (.ref f3))) (l3 : K.lookup f3 = some ⟨oc3, od3, .func (PySem.W.fnOf "filled" "filled" (defArgs (top 4)) (defBody (top 4)) (defScope (top 4)) .none kV3 dc3 pm3 an3 cd3 ct3), sl3⟩) (c3 : PySem.W.codeIn K cd3 "filled" = true) (k3 : PySem.W.keepIn K (.ref f3) = true)
    (a4 : PySem.W.nsIn K mainGlobals "heads_alike" = some (some (.ref f4))) (l4 : K.lookup f4 = some ⟨oc4, od4, .func (PySem.W.fnOf "heads_alike" "heads_alike" (defArgs (top 5)) (defBody (top 5)) (defScope (top 5)) .none kV4 dc4 pm4 an4 cd4 ct4), sl4⟩) (c4 : PySem.W.codeIn K cd4 "heads_alike" = true) (k4 : PySem.W.keepIn K (.ref f4) = true)
    (a5 : PySem.W.nsIn K mainGlobals "matches" = some (some (.ref f5))) (l5 : K.lookup f5 = some ⟨oc5, od5, .func (PySem.W.fnOf "matches" "matches" (defArgs (top 6)) (defBody (top 6)) (defScope (top 6)) .none kV5 dc5 pm5 an5 cd5 ct5), sl5⟩) (c5 : PySem.W.codeIn K cd5 "matches" = true) (k5 : PySem.W.keepIn K (.ref f5) = true)
    (a6 : PySem.W.nsIn K mainGlobals "matched" = some (some (.ref f6))) (l6 : K.lookup f6 = some ⟨oc6, od6, .func (PySem.W.fnOf "matched" "matched" (defArgs (top 7)) (defBody (top 7)) (defScope (top 7)) .none kV6 dc6 pm6 an6 cd6 ct6), sl6⟩) (c6 : PySem.W.codeIn K cd6 "matched" = true) (k6 : PySem.W.keepIn K (.ref f6) = true)
    (a7 : PySem.W.nsIn K mainGlobals "numbered" = some (some (.ref f7))) (l7 : K.lookup f7 = some ⟨oc7, od7, .func (PySem.W.fnOf "numbered" "numbered" (defArgs (top 8)) (defBody (top 8)) (defScope (top 8)) .none kV7 dc7 pm7 an7 cd7 ct7), sl7⟩) (c7 : PySem.W.codeIn K cd7 "numbered" = true) (k7 : PySem.W.keepIn K (.ref f7) = true)
    (a8 : PySem.W.nsIn K mainGlobals "_law_cell" = some (some (.ref f8))) (l8 : K.lookup f8 = some ⟨oc8, od8, .func (PySem.W.fnOf "_law_cell" "_law_cell" (defArgs (top 10)) (defBody (top 10)) (defScope (top 10)) .none kV8 dc8 pm8 an8 cd8 ct8), sl8⟩) (c8 : PySem.W.codeIn K cd8 "_law_cell" = true) (k8 : PySem.W.keepIn K (.ref f8) = true)
    (a9 : PySem.W.nsIn K mainGlobals "_law_mixed" = some (some (.ref f9))) (l9 : K.lookup f9 = some ⟨oc9, od9, .func (PySem.W.fnOf "_law_mixed" "_law_mixed" (defArgs (top 11)) (defBody (top 11)) (defScope (top 11)) .none kV9 dc9 pm9 an9 cd9 ct9), sl9⟩) (c9 : PySem.W.codeIn K cd9 "_law_mixed" = true) (k9 : PySem.W.keepIn K (.ref f9) = true)
    (a10 : PySem.W.nsIn K mainGlobals "_law_box" = some (some (.ref f10))) (l10 : K.lookup f10 = some ⟨oc10, od10, .func (PySem.W.fnOf "_law_box" "_law_box" (defArgs (top 12)) (defBody (top 12)) (defScope (top 12)) .none kV10 dc10 pm10 an10 cd10 ct10), sl10⟩) (c10 : PySem.W.codeIn K cd10 "_law_box" = true) (k10 : PySem.W.keepIn K (.ref f10) = true)
    (a11 : PySem.W.nsIn K mainGlobals "_law_take" = some (some (.ref f11))) (l11 : K.lookup f11 = some ⟨oc11, od11, .func (PySem.W.fnOf "_law_take" "_law_take" (defArgs (top 13)) (defBody (top 13)) (defScope (top 13)) .none kV11 dc11 pm11 an11 cd11 ct11), sl11⟩) (c11 : PySem.W.codeIn K cd11 "_law_take" = true) (k11 : PySem.W.keepIn K (.ref f11) = true)
    (a12 : PySem.W.nsIn K mainGlobals "_law_word" = some (some (.ref f12))) (l12 : K.lookup f12 = some ⟨oc12, od12, .func (PySem.W.fnOf "_law_word" "_law_word" (defArgs (top 14)) (defBody (top 14)) (defScope (top 14)) .none kV12 dc12 pm12 an12 cd12 ct12), sl12⟩) (c12 : PySem.W.codeIn K cd12 "_law_word" = true) (k12 : PySem.W.keepIn K (.ref f12) = true)
    (a13 : PySem.W.nsIn K mainGlobals "_law_name" = some (some (.ref f13))) (l13 : K.lookup f13 = some ⟨oc13, od13, .func (PySem.W.fnOf "_law_name" "_law_name" (defArgs (top 15)) (defBody (top 15)) (defScope (top 15)) .none kV13 dc13 pm13 an13 cd13 ct13), sl13⟩) (c13 : PySem.W.codeIn K cd13 "_law_name" = true) (k13 : PySem.W.keepIn K (.ref f13) = true)
    (a14 : PySem.W.nsIn K mainGlobals "_law_kind" = some (some (.ref f14))) (l14 : K.lookup f14 = some ⟨oc14, od14, .func (PySem.W.fnOf "_law_kind" "_law_kind" (defArgs (top 16)) (defBody (top 16)) (defScope (top 16)) .none kV14 dc14 pm14 an14 cd14 ct14), sl14⟩) (c14 : PySem.W.codeIn K cd14 "_law_kind" = true) (k14 : PySem.W.keepIn K (.ref f14) = true)
    (a15 : PySem.W.nsIn K mainGlobals "_law_deep" = some (some (.ref f15))) (l15 : K.lookup f15 = some ⟨oc15, od15, .func (PySem.W.fnOf "_law_deep" "_law_deep" (defArgs (top 17)) (defBody (top 17)) (defScope (top 17)) .none kV15 dc15 pm15 an15 cd15 ct15), sl15⟩) (c15 : PySem.W.codeIn K cd15 "_law_deep" = true) (k15 : PySem.W.keepIn K (.ref f15) = true)
    (a16 : PySem.W.nsIn K mainGlobals "_law_within" = some (some (.ref f16))) (l16 : K.lookup f16 = some ⟨oc16, od16, .func (PySem.W.fnOf "_law_within" "_law_within" (defArgs (top 18)) (defBody (top 18)) (defScope (top 18)) .none kV16 dc16 pm16 an16 cd16 ct16), sl16⟩) (c16 : PySem.W.codeIn K cd16 "_law_within" = true) (k16 : PySem.W.keepIn K (.ref f16) = true)
    (a17 : PySem.W.nsIn K mainGlobals "_law_with" = some (some (.ref f17))) (l17 : K.lookup f17 = some ⟨oc17, od17, .func (PySem.W.fnOf "_law_with" "_law_with" (defArgs (top 19)) (defBody (top 19)) (defScope (top 19)) .none kV17 dc17 pm17 an17 cd17 ct17), sl17⟩) (c17 : PySem.W.codeIn K cd17 "_law_with" = true) (k17 : PySem.W.keepIn K (.ref f17) = true)
    (a18 : PySem.W.nsIn K mainGlobals "_law_spoilt" = some (some (.ref f18))) (l18 : K.lookup f18 = some ⟨oc18, od18, .func (PySem.W.fnOf "_law_spoilt" "_law_spoilt" (defArgs (top 20)) (defBody (top 20)) (defScope (top 20)) .none kV18 dc18 pm18 an18 cd18 ct18), sl18⟩) (c18 : PySem.W.codeIn K cd18 "_law_spoilt" = true) (k18 : PySem.W.keepIn K (.ref f18) = true)
    (a19 : PySem.W.nsIn K mainGlobals "_law_fits" = some (some (.ref f19))) (l19 : K.lookup f19 = some ⟨oc19, od19, .func (PySem.W.fnOf "_law_fits" "_law_fits" (defArgs (top 21)) (defBody (top 21)) (defScope (top 21)) .none kV19 dc19 pm19 an19 cd19 ct19), sl19⟩) (c19 : PySem.W.codeIn K cd19 "_law_fits" = true) (k19 : PySem.W.keepIn K (.ref f19) = true)
    (a20 : PySem.W.nsIn K mainGlobals "_law_right" = some (some (.ref f20))) (l20 : K.lookup f20 = some ⟨oc20, od20, .func (PySem.W.fnOf "_law_right" "_law_right" (defArgs (top 22)) (defBody (top 22)) (defScope (top 22)) .none kV20 dc20 pm20 an20 cd20 ct20), sl20⟩) (c20 : PySem.W.codeIn K cd20 "_law_right" = true) (k20 : PySem.W.keepIn K (.ref f20) = true)
    (a21 : PySem.W.nsIn K mainGlobals "law" = some (some (.ref f21))) (l21 : K.lookup f21 = some ⟨oc21, od21, .func (PySem.W.fnOf "law" "law" (defArgs (top 23)) (defBody (top 23)) (defScope (top 23)) .none kV21 dc21 pm21 an21 cd21 ct21), sl21⟩) (c21 : PySem.W.codeIn K cd21 "law" = true) (k21 : PySem.W.keepIn K (.ref f21) = true)
    (z0 : PySem.W.nsIn K mainGlobals "dict" = some none)
    (z1 : PySem.W.nsIn K mainGlobals "enumerate" = some none)
    (z2 : PySem.W.nsIn K mainGlobals "isinstance" = some none)
    (z3 : PySem.W.nsIn K mainGlobals "len" = some none)
    (z4 : PySem.W.nsIn K mainGlobals "list" = some none)
    (z5 : PySem.W.nsIn K mainGlobals "max" = some none)
    (z6 : PySem.W.nsIn K mainGlobals "min" = some none)
    (z7 : PySem.W.nsIn K mainGlobals "range" = some none)
    (z8 : PySem.W.nsIn K mainGlobals "sorted" = some none)
    (z9 : PySem.W.nsIn K mainGlobals "tuple" = some none)
    (z10 : PySem.W.nsIn K mainGlobals "zip" = some none)
    : Rx.Env K mg T ds := by
  have F0 := fun_mk (st := top 1) l0 c0 k0
  have F1 := fun_mk (st := top 2) l1 c1 k1
  have F2 := fun_mk (st := top 3) l2 c2 k2
  have F3 := fun_mk (st := top 4) l3 c3 k3
  have F4 := fun_mk (st := top 5) l4 c4 k4
  have F5 := fun_mk (st := top 6) l5 c5 k5
  have F6 := fun_mk (st := top 7) l6 c6 k6
  have F7 := fun_mk (st := top 8) l7 c7 k7
  have F8 := fun_mk (st := top 10) l8 c8 k8
  have F9 := fun_mk (st := top 11) l9 c9 k9
  have F10 := fun_mk (st := top 12) l10 c10 k10
  have F11 := fun_mk (st := top 13) l11 c11 k11
  have F12 := fun_mk (st := top 14) l12 c12 k12
  have F13 := fun_mk (st := top 15) l13 c13 k13
  have F14 := fun_mk (st := top 16) l14 c14 k14
  have F15 := fun_mk (st := top 17) l15 c15 k15
  have F16 := fun_mk (st := top 18) l16 c16 k16
  have F17 := fun_mk (st := top 19) l17 c17 k17
  have F18 := fun_mk (st := top 20) l18 c18 k18
  have F19 := fun_mk (st := top 21) l19 c19 k19
  have F20 := fun_mk (st := top 22) l20 c20 k20
  have F21 := fun_mk (st := top 23) l21 c21 k21
  refine ⟨rfl, ?_, bs_of ?_, gs_of ?_⟩
  · exact all_cons ⟨ok_within, _, _, F0, PySem.W.mg_of KX G a0, b_within F0⟩ (all_cons ⟨ok_opens_in, _, _, F1, PySem.W.mg_of KX G a1, b_opens_in F1⟩ (all_cons ⟨ok_with_within, _, _, F2, PySem.W.mg_of KX G a2, b_with_within F2⟩ (all_cons ⟨ok_filled, _, _, F3, PySem.W.mg_of KX G a3, b_filled F3⟩ (all_cons ⟨ok_heads_alike, _, _, F4, PySem.W.mg_of KX G a4, b_heads_alike F4⟩ (all_cons ⟨ok_matches, _, _, F5, PySem.W.mg_of KX G a5, b_matches F5⟩ (all_cons ⟨ok_matched, _, _, F6, PySem.W.mg_of KX G a6, b_matched F6⟩ (all_cons ⟨ok_numbered, _, _, F7, PySem.W.mg_of KX G a7, b_numbered F7⟩ (all_cons ⟨ok_law_cell, _, _, F8, PySem.W.mg_of KX G a8, b_law_cell F8⟩ (all_cons ⟨ok_law_mixed, _, _, F9, PySem.W.mg_of KX G a9, b_law_mixed F9⟩ (all_cons ⟨ok_law_box, _, _, F10, PySem.W.mg_of KX G a10, b_law_box F10⟩ (all_cons ⟨ok_law_take, _, _, F11, PySem.W.mg_of KX G a11, b_law_take F11⟩ (all_cons ⟨ok_law_word, _, _, F12, PySem.W.mg_of KX G a12, b_law_word F12⟩ (all_cons ⟨ok_law_name, _, _, F13, PySem.W.mg_of KX G a13, b_law_name F13⟩ (all_cons ⟨ok_law_kind, _, _, F14, PySem.W.mg_of KX G a14, b_law_kind F14⟩ (all_cons ⟨ok_law_deep, _, _, F15, PySem.W.mg_of KX G a15, b_law_deep F15⟩ (all_cons ⟨ok_law_within, _, _, F16, PySem.W.mg_of KX G a16, b_law_within F16⟩ (all_cons ⟨ok_law_with, _, _, F17, PySem.W.mg_of KX G a17, b_law_with F17⟩ (all_cons ⟨ok_law_spoilt, _, _, F18, PySem.W.mg_of KX G a18, b_law_spoilt F18⟩ (all_cons ⟨ok_law_fits, _, _, F19, PySem.W.mg_of KX G a19, b_law_fits F19⟩ (all_cons ⟨ok_law_right, _, _, F20, PySem.W.mg_of KX G a20, b_law_right F20⟩ (all_cons ⟨ok_law, _, _, F21, PySem.W.mg_of KX G a21, b_law F21⟩ (all_nil))))))))))))))))))))))
  · exact all_cons (PySem.W.mg_none_of KX G z0) (all_cons (PySem.W.mg_none_of KX G z1) (all_cons (PySem.W.mg_none_of KX G z2) (all_cons (PySem.W.mg_none_of KX G z3) (all_cons (PySem.W.mg_none_of KX G z4) (all_cons (PySem.W.mg_none_of KX G z5) (all_cons (PySem.W.mg_none_of KX G z6) (all_cons (PySem.W.mg_none_of KX G z7) (all_cons (PySem.W.mg_none_of KX G z8) (all_cons (PySem.W.mg_none_of KX G z9) (all_cons (PySem.W.mg_none_of KX G z10) (all_nil)))))))))))
  · exact all_nil
end k13

theorem k13.law_ok : ∀ ns : List Int, ns.length ≤ 63 → ∃ st', Rx.callP (k13.ds.map (·.fn)) 200 21 [.ro (ns.map Rx.D.int)] [] = .ok (.bl true) st' := fun ns _ => by
  obtain ⟨r, st', e, h⟩ := (k13.sp_law (ns := ns) (st := [])).get
  exact ⟨st', by rw [← h]; exact e⟩
open PySem PySem.W PyProof.Rows
set_option maxRecDepth 100000 in
set_option maxHeartbeats 0 in
theorem PySem.Challenge.cw_kindworks_k13_whole_kinds_matched_holds : PySem.Challenge.rw_kindworks_k13_whole_kinds_matched.Holds := by
  w_on; o_law; k_head; (case hw => w_witness2)
  k_fill
  refine Rx.walk (l := PySem.Challenge.rw_kindworks_k13_whole_kinds_matched) (T := k13.T) (ds := k13.ds) (i := 21) (k := 200) (x := "script") rfl rfl ⟨rfl, by decide, by decide⟩ (fun w h Y => PySem.W.kIn_of Y) ⟨"law", k13.top 23, k13.c_law, k13.N_law⟩ rfl rfl rfl ?E (fun w mg f fd hv s u => ?B) k13.law_ok
  case B =>
    obtain ⟨oc, od, kV, doc, pm, an, cdv, ct, osl, rfl, _⟩ := hv.fn.ex
    exact .of_eq rfl
  case E =>
    intro w mg h KX G
    refine' k13.env KX G ?a0 ?l0 ?c0 ?k0 ?a1 ?l1 ?c1 ?k1 ?a2 ?l2 ?c2 ?k2 ?a3 ?l3 ?c3 ?k3 ?a4 ?l4 ?c4 ?k4 ?a5 ?l5 ?c5 ?k5 ?a6 ?l6 ?c6 ?k6 ?a7 ?l7 ?c7 ?k7 ?a8 ?l8 ?c8 ?k8 ?a9 ?l9 ?c9 ?k9 ?a10 ?l10 ?c10 ?k10 ?a11 ?l11 ?c11 ?k11 ?a12 ?l12 ?c12 ?k12 ?a13 ?l13 ?c13 ?k13 ?a14 ?l14 ?c14 ?k14 ?a15 ?l15 ?c15 ?k15 ?a16 ?l16 ?c16 ?k16 ?a17 ?l17 ?c17 ?k17 ?a18 ?l18 ?c18 ?k18 ?a19 ?l19 ?c19 ?k19 ?a20 ?l20 ?c20 ?k20 ?a21 ?l21 ?c21 ?k21 ?z0 ?z1 ?z2 ?z3 ?z4 ?z5 ?z6 ?z7 ?z8 ?z9 ?z10
    (case a0 => k_is)
    (case l0 => k_is)
    (case c0 => k_is)
    (case k0 => k_is)
    (case a1 => k_is)
    (case l1 => k_is)
    (case c1 => k_is)
    (case k1 => k_is)
    (case a2 => k_is)
    (case l2 => k_is)
    (case c2 => k_is)
    (case k2 => k_is)
    (case a3 => k_is)
    (case l3 => k_is)
    (case c3 => k_is)
    (case k3 => k_is)
    (case a4 => k_is)
    (case l4 => k_is)
    (case c4 => k_is)
    (case k4 => k_is)
    (case a5 => k_is)
    (case l5 => k_is)
    (case c5 => k_is)
    (case k5 => k_is)
    (case a6 => k_is)
    (case l6 => k_is)
    (case c6 => k_is)
    (case k6 => k_is)
    (case a7 => k_is)
    (case l7 => k_is)
    (case c7 => k_is)
    (case k7 => k_is)
    (case a8 => k_is)
    (case l8 => k_is)
    (case c8 => k_is)
    (case k8 => k_is)
    (case a9 => k_is)
    (case l9 => k_is)
    (case c9 => k_is)
    (case k9 => k_is)
    (case a10 => k_is)
    (case l10 => k_is)
    (case c10 => k_is)
    (case k10 => k_is)
    (case a11 => k_is)
    (case l11 => k_is)
    (case c11 => k_is)
    (case k11 => k_is)
    (case a12 => k_is)
    (case l12 => k_is)
    (case c12 => k_is)
    (case k12 => k_is)
    (case a13 => k_is)
    (case l13 => k_is)
    (case c13 => k_is)
    (case k13 => k_is)
    (case a14 => k_is)
    (case l14 => k_is)
    (case c14 => k_is)
    (case k14 => k_is)
    (case a15 => k_is)
    (case l15 => k_is)
    (case c15 => k_is)
    (case k15 => k_is)
    (case a16 => k_is)
    (case l16 => k_is)
    (case c16 => k_is)
    (case k16 => k_is)
    (case a17 => k_is)
    (case l17 => k_is)
    (case c17 => k_is)
    (case k17 => k_is)
    (case a18 => k_is)
    (case l18 => k_is)
    (case c18 => k_is)
    (case k18 => k_is)
    (case a19 => k_is)
    (case l19 => k_is)
    (case c19 => k_is)
    (case k19 => k_is)
    (case a20 => k_is)
    (case l20 => k_is)
    (case c20 => k_is)
    (case k20 => k_is)
    (case a21 => k_is)
    (case l21 => k_is)
    (case c21 => k_is)
    (case k21 => k_is)
    (case z0 => k_is)
    (case z1 => k_is)
    (case z2 => k_is)
    (case z3 => k_is)
    (case z4 => k_is)
    (case z5 => k_is)
    (case z6 => k_is)
    (case z7 => k_is)
    (case z8 => k_is)
    (case z9 => k_is)
    (case z10 => k_is)
#print axioms PySem.Challenge.cw_kindworks_k13_whole_kinds_matched_holds

