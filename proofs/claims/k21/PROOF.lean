import PyProof.Rows.All
import Wide.All
import OpenK.AllK
import Wide.FinOn
import PyProof.EqAt
import PyProof.EqKinds
import PyProof.NeData
import PyProof.TupleCall
import HandS.ForMost
import HandS.IsInst
import HandS.TupAny
import HandS.TupMul
import HandS.Style
import HandS.Flow
import HandS.Zip
import HandS.Walk
import HandS.Steps
import PySem.Challenge.RW_kindworks_k21_general_by_form
set_option Elab.async false
set_option linter.all false
set_option autoImplicit false
set_option maxRecDepth 100000
/-! Rx: a small language of data and its interpreter. -/
namespace Rx

inductive Ky | i (n : Int) | s (x : String)
  deriving DecidableEq, Repr
/-- plain data; loc: a thing that may change, by its number in the store -/
inductive D where
  | non | bl (b : Bool) | int (i : Int) | str (s : String)
  | tup (xs : List D) | lst (xs : List D) | ro (xs : List D) | dct (ks : List Ky) (vs : List D)
  | loc (n : Nat)
  deriving Inhabited, Repr
inductive Cell where
  | lst (xs : List D) | dct (ks : List Ky) (vs : List D)
  deriving Inhabited, Repr
abbrev Store := List Cell
inductive Res (α : Type) where
  | ok (a : α) (st : Store) | no
  deriving Repr
def Res.bind {α β : Type} (r : Res α) (f : α → Store → Res β) : Res β := match r with
  | .ok a st => f a st
  | .no => .no
@[simp] theorem bnd_ok {α β : Type} {a : α} {st : Store} {f : α → Store → Res β} : (Res.ok a st).bind f = f a st := rfl
@[simp] theorem bnd_no {α β : Type} {f : α → Store → Res β} : (Res.no : Res α).bind f = .no := rfl
/-- an answer that may lack -/
def Res.of {α : Type} (o : Option α) (st : Store) : Res α := match o with
  | some a => .ok a st
  | none => .no

def LINE : Nat := 16777216

mutual
/-- how deep data is; what is not compared is beyond -/
def D.rk : D → Nat
  | .non | .bl _ | .int _ | .str _ => 0
  | .tup xs => D.rkAll xs + 1
  | .lst xs => D.rkAll xs + 1
  | .ro _ | .dct _ _ | .loc _ => 1000
def D.rkAll : List D → Nat
  | [] => 0
  | x :: xs => max (D.rk x) (D.rkAll xs)
end
mutual
/-- Python's == -/
def D.eq : D → D → Bool
  | .non, .non => true
  | .bl a, .bl b => a == b
  | .bl a, .int j => (if a then 1 else 0) == j
  | .int i, .bl b => i == (if b then 1 else 0)
  | .int i, .int j => i == j
  | .str x, .str y => x == y
  | .lst xs, .lst ys => D.eqAll xs ys
  | .tup xs, .tup ys => D.eqAll xs ys
  | _, _ => false
def D.eqAll : List D → List D → Bool
  | [], [] => true
  | x :: xs, y :: ys => D.eq x y && D.eqAll xs ys
  | _, _ => false
end

/-- the items of a list, whichever -/
def lstOf (st : Store) : D → Option (List D)
  | .lst xs => some xs
  | .loc n => match st[n]? with
    | some (.lst xs) => some xs
    | _ => none
  | _ => none
/-- .. of a list or a tuple, read -/
def seqOf (st : Store) : D → Option (List D)
  | .lst xs => some xs
  | .ro xs => some xs
  | .tup xs => some xs
  | .loc n => match st[n]? with
    | some (.lst xs) => some xs
    | _ => none
  | _ => none
/-- .. of a list, read -/
def lroOf (st : Store) : D → Option (List D)
  | .lst xs => some xs
  | .ro xs => some xs
  | .loc n => match st[n]? with
    | some (.lst xs) => some xs
    | _ => none
  | _ => none
def dctOf (st : Store) : D → Option (List Ky × List D)
  | .dct ks vs => some (ks, vs)
  | .loc n => match st[n]? with
    | some (.dct ks vs) => some (ks, vs)
    | _ => none
  | _ => none
/-- a list that may be compared as it stands -/
def flat1 (st : Store) (d : D) : D := match d with
  | .loc n => match st[n]? with
    | some (.lst xs) => .lst xs
    | _ => d
  | d => d
def newL (m : Bool) (xs : List D) (st : Store) : Res D := if m = true then .ok (.loc st.length) (st ++ [.lst xs]) else .ok (.lst xs) st
def newD (m : Bool) (ks : List Ky) (vs : List D) (st : Store) : Res D := if m = true then .ok (.loc st.length) (st ++ [.dct ks vs]) else .ok (.dct ks vs) st

/-! operators -/
inductive Bo | add | sub | mul | div | mod | pow | shl | shr | band | bor
  deriving DecidableEq, Repr
inductive Co | eq | ne | lt | le | gt | ge | isin | notin | is | isnot
  deriving DecidableEq, Repr
def bopI (o : Bo) (i j : Int) : Option Int := match o with
  | .add => some (i + j)
  | .sub => some (i - j)
  | .mul => if (-(2 ^ 64) < i ∧ i < 2 ^ 64) ∨ (-(2 ^ 64) < j ∧ j < 2 ^ 64) then some (i * j) else none
  | .div => if 0 < j ∧ j < 1073741824 then some (i / j) else none
  | .mod => if 0 < j then some (i % j) else none
  | .pow => if 0 ≤ j ∧ j ≤ 1000000 ∧ i.natAbs < 2 ^ 64 then some (i ^ j.toNat) else none
  | .shl => if 0 ≤ j ∧ j ≤ 1000000 ∧ i.natAbs < 2 ^ 64 then some (i * 2 ^ j.toNat) else none
  | .shr => if 0 ≤ j then some (i / 2 ^ j.toNat) else none
  | .band => none
  | .bor => none
def bop (o : Bo) (m : Bool) (a b : D) (st : Store) : Res D := match a, b with
  | .int i, .int j => .of ((bopI o i j).map D.int) st
  | .str s, .str t => match o with
    | .add => if s.length + t.length ≤ LINE then .ok (.str (s ++ t)) st else .no
    | _ => .no
  | .tup xs, .tup ys => match o with
    | .add => if xs.length + ys.length ≤ LINE then .ok (.tup (xs ++ ys)) st else .no
    | _ => .no
  | .tup xs, .int k => match o with
    | .mul => if xs ≠ [] ∧ -(2 ^ 63) ≤ k ∧ k ≤ 1000 ∧ xs.length ≤ 1000 then .ok (.tup (List.replicate k.toNat xs).flatten) st else .no
    | _ => .no
  | .str s, .int k => match o with
    | .mul => if -(2 ^ 63) ≤ k ∧ k ≤ 1000 ∧ s.length ≤ 1000 then .ok (.str (String.ofList (List.replicate k.toNat s.toList).flatten)) st else .no
    | _ => .no
  | a, .int k => match o, lstOf st a with
    | .mul, some xs => if xs.length * k.toNat ≤ LINE ∧ -(2 ^ 63) ≤ k ∧ k < 2 ^ 63 then newL m (List.replicate k.toNat xs).flatten st else .no
    | _, _ => .no
  | a, b => match o, lstOf st a, lstOf st b with
    | .add, some xs, some ys => if xs.length + ys.length ≤ LINE then newL m (xs ++ ys) st else .no
    | _, _, _ => .no

def cmpI (o : Co) (i j : Int) : Option Bool := match o with
  | .lt => some (decide (i < j))
  | .le => some (decide (i ≤ j))
  | .gt => some (decide (j < i))
  | .ge => some (decide (j ≤ i))
  | _ => none
def isNil : D → Bool
  | .tup [] | .lst [] => true
  | _ => false
/-- a thing that is itself compared by == without a look into a store -/
def cmpb : D → Bool
  | .ro _ | .dct _ _ | .loc _ => false
  | _ => true
/-- a thing that may be sought by == as it stands -/
def scal : D → Bool
  | .non | .bl _ | .int _ | .str _ => true
  | _ => false
def okEq (a b : D) : Bool := (scal a && cmpb b) || (scal b && cmpb a) || (isNil b && cmpb a) || (decide (a.rk ≤ 200) && decide (b.rk ≤ 200))
def isIn (x : D) (xs : List D) : Bool := xs.any fun y => D.eq y x
def lookK (ks : List Ky) (vs : List D) (k : Ky) : Option D := match ks, vs with
  | k' :: ks, v :: vs => if k' = k then some v else lookK ks vs k
  | _, _ => none
def kyOf : D → Option Ky
  | .int i => some (.i i)
  | .str s => some (.s s)
  | _ => none
def inB (a b : D) (st : Store) : Option Bool := match b with
  | .str t => match a with
    | .str s => match s.toList with
      | [c] => some (t.toList.contains c)
      | _ => none
    | _ => none
  | b => match seqOf st b with
    | some xs => if scal a && xs.all scal then some (isIn a xs) else none
    | none => match dctOf st b, kyOf a with
      | some (ks, vs), some k => some (lookK ks vs k).isSome
      | _, _ => none
def isB (a b : D) : Option Bool := match a, b with
  | .bl x, .bl y => some (x == y)
  | .non, .non => some true
  | _, .non => some false
  | _, _ => none
def ordB (o : Co) (a b : D) : Option Bool := match a, b with
  | .int i, .int j => cmpI o i j
  | _, _ => none
def cmpV (o : Co) (a b : D) (st : Store) : Option Bool := match o with
  | .eq => if okEq (flat1 st a) (flat1 st b) then some (D.eq (flat1 st a) (flat1 st b)) else none
  | .ne => if okEq (flat1 st a) (flat1 st b) then some (!D.eq (flat1 st a) (flat1 st b)) else none
  | .isin => inB a b st
  | .notin => (inB a b st).map (!·)
  | .is => isB a b
  | .isnot => (isB a b).map (!·)
  | .lt => ordB .lt a b
  | .le => ordB .le a b
  | .gt => ordB .gt a b
  | .ge => ordB .ge a b
/-- a thing's truth -/
def truD (st : Store) : D → Option Bool
  | .non => some false
  | .bl b => some b
  | .int i => some (i != 0)
  | _ => none

/-! items and parts -/
def ixN (n : Nat) (i : Int) : Option Nat := if 0 ≤ i then (if i < n then some i.toNat else none) else if -(n : Int) ≤ i then some (i + n).toNat else none
def atI {α : Type} (xs : List α) (i : Int) : Option α := (ixN xs.length i).bind fun j => xs[j]?
def ixV (a i : D) (st : Store) : Option D := match a, i with
  | .str s, .int i => (atI s.toList i).bind fun c => if s.length ≤ LINE then some (.str (String.ofList [c])) else none
  | a, .int i => (seqOf st a).bind fun xs => atI xs i
  | _, _ => none
def sIx (n d : Nat) : Option Int → Nat
  | none => d
  | some v => if v < 0 then (v + (n : Int)).toNat else min v.toNat n
def cut {α : Type} (xs : List α) (lo hi : Option Int) : List α := (xs.drop (sIx xs.length 0 lo)).take (sIx xs.length xs.length hi - sIx xs.length 0 lo)
def sliV (m : Bool) (a : D) (lo hi : Option Int) (st : Store) : Res D := match a with
  | .tup xs => .ok (.tup (cut xs lo hi)) st
  | .str s => if s.length ≤ LINE then .ok (.str (String.ofList (cut s.toList lo hi))) st else .no
  | a => match lroOf st a with
    | some xs => newL m (cut xs lo hi) st
    | none => .no

/-! built-ins -/
inductive Ty | int | bool | str | tuple | list | dict
  deriving DecidableEq, Repr
def isTy (st : Store) (d : D) : Ty → Option Bool
  | .int => match d with
    | .int _ | .bl _ => some true
    | .loc n => (st[n]?).map fun _ => false
    | _ => some false
  | .bool => match d with
    | .bl _ => some true
    | .loc n => (st[n]?).map fun _ => false
    | _ => some false
  | .str => match d with
    | .str _ => some true
    | .loc n => (st[n]?).map fun _ => false
    | _ => some false
  | .tuple => match d with
    | .tup _ => some true
    | .loc n => (st[n]?).map fun _ => false
    | _ => some false
  | .list => match d with
    | .lst _ | .ro _ => some true
    | .loc n => match st[n]? with
      | some (.lst _) => some true
      | some (.dct _ _) => some false
      | none => none
    | _ => some false
  | .dict => match d with
    | .dct _ _ => some true
    | .loc n => match st[n]? with
      | some (.lst _) => some false
      | some (.dct _ _) => some true
      | none => none
    | _ => some false
inductive Bi | len | max | min | sum | all | any | int | tuple | list
  deriving DecidableEq, Repr
def intsD : List D → Option (List Int)
  | [] => some []
  | .int i :: r => (intsD r).map (i :: ·)
  | _ => none
def blsD : List D → Option (List Bool)
  | [] => some []
  | .bl i :: r => (blsD r).map (i :: ·)
  | _ => none
def strsD : List D → Option (List String)
  | [] => some []
  | .str i :: r => (strsD r).map (i :: ·)
  | _ => none
def biV (b : Bi) (m : Bool) (ds : List D) (st : Store) : Res D := match b, ds with
  | .len, [.str s] => if s.length ≤ LINE then .ok (.int s.length) st else .no
  | .len, [a] => match seqOf st a, dctOf st a with
    | some xs, _ => .ok (.int xs.length) st
    | none, some (ks, _) => .ok (.int ks.length) st
    | none, none => .no
  | .max, [.int i, .int j] => .ok (.int (if j > i then j else i)) st
  | .min, [.int i, .int j] => .ok (.int (if j < i then j else i)) st
  | .sum, [a] => .of (((lstOf st a).bind intsD).map fun l => .int l.sum) st
  | .all, [a] => .of (((lstOf st a).bind blsD).map fun l => .bl (l.all id)) st
  | .any, [a] => .of (((lstOf st a).bind blsD).map fun l => .bl (l.any id)) st
  | .int, [.int i] => .ok (.int i) st
  | .int, [.bl b] => .ok (.int (if b then 1 else 0)) st
  | .tuple, [.tup xs] => .ok (.tup xs) st
  | .tuple, [a] => .of ((lroOf st a).map D.tup) st
  | .list, [a] => match seqOf st a with
    | some xs => newL m xs st
    | none => .no
  | _, _ => .no

/-! methods -/
/-- the parts of a list ahead of and behind the first c -/
def cutAt (c : Char) : List Char → Option (List Char × List Char)
  | [] => none
  | x :: r => if x = c then some ([], r) else (cutAt c r).map fun p => (x :: p.1, p.2)
def splitC (c : Char) : List Char → List (List Char)
  | [] => [[]]
  | x :: r => if x = c then [] :: splitC c r else match splitC c r with
    | [] => [[x]]
    | p :: ps => (x :: p) :: ps
def joinS (sep : String) : List String → String
  | [] => ""
  | [x] => x
  | x :: r => x ++ sep ++ joinS sep r
def joinLen (n : Nat) (l : List String) : Nat := (l.map String.length).sum + l.length * n
inductive Me | join | partition | split | count | append | extend | get1 | get2
  deriving DecidableEq, Repr
def meV (f : Me) (m : Bool) (o : D) (ds : List D) (st : Store) : Res D := match f, o, ds with
  | .join, .str s, [a] => match (seqOf st a).bind strsD with
    | some xs => if joinLen s.length xs ≤ LINE then .ok (.str (joinS s xs)) st else .no
    | none => .no
  | .partition, .str s, [.str t] => match t.toList with
    | [c] => if s.length ≤ LINE then (match cutAt c s.toList with
      | some (a, b) => .ok (.tup [.str (String.ofList a), .str t, .str (String.ofList b)]) st
      | none => .ok (.tup [.str s, .str "", .str ""]) st) else .no
    | _ => .no
  | .split, .str s, [.str t] => match t.toList with
    | [c] => if s.length + 2 ≤ LINE ∧ c.toNat < 256 then newL m ((splitC c s.toList).map fun l => .str (String.ofList l)) st else .no
    | _ => .no
  | .count, .str s, [.str t] => match t.toList with
    | [c] => .ok (.int (s.toList.count c)) st
    | _ => .no
  | .append, .loc n, [d] => match st[n]? with
    | some (.lst xs) => if xs.length < LINE then .ok .non (st.set n (.lst (xs ++ [d]))) else .no
    | _ => .no
  | .extend, .loc n, [a] => match st[n]?, lstOf st a with
    | some (.lst xs), some ys => if xs.length + ys.length ≤ LINE then .ok .non (st.set n (.lst (xs ++ ys))) else .no
    | _, _ => .no
  | .get2, a, [k, d] => match dctOf st a, kyOf k with
    | some (ks, vs), some k => .ok ((lookK ks vs k).getD d) st
    | _, _ => .no
  | .get1, a, [k] => match dctOf st a, kyOf k with
    | some (ks, vs), some k => .ok ((lookK ks vs k).getD .non) st
    | _, _ => .no
  | _, _, _ => .no

/-- the receiver is of the method's class, whatever the arguments' evaluation did -/
def meIs (st : Store) : Me → D → Bool
  | .join, .str _ | .partition, .str _ | .split, .str _ | .count, .str _ => true
  | .append, .loc n | .extend, .loc n => match st[n]? with
    | some (.lst _) => true
    | _ => false
  | .get1, d | .get2, d => (dctOf st d).isSome
  | _, _ => false
/-! ### the codes -/
inductive Tg | nm (i : Nat) | tu (ts : List Nat)
  deriving DecidableEq, Repr
mutual
inductive E where
  | lit (d : D) | var (i : Nat) | glo (d : D)
  | bop (o : Bo) (m : Bool) (a b : E) | neg (a : E) | inot (a : E)
  | cmp (o : Co) (a b : E) | chn (o p : Co) (a b c : E)
  | ands (es : Es) | ors (es : Es) | tru (a : E) | ite (c a b : E)
  | tup (es : Es) | lst (m : Bool) (es : Es) | dct (m : Bool) (kvs : Es)
  | ix (a i : E) | sl (m : Bool) (a : E) (lo hi : Oe)
  | call (f : Nat) (es : Es) | bi (b : Bi) (m : Bool) (es : Es) | isi (a : E) (t : Ty)
  | me (f : Me) (m : Bool) (o : E) (es : Es)
  | lc (m : Bool) (elt : E) (t : Tg) (it : I) (c : Oe) (own : List Nat)
inductive Es where
  | nil | cons (e : E) (es : Es)
inductive Oe where
  | non | som (e : E)
inductive I where
  | it (e : E) | rng (a : E) | rng2 (a b : E) | enum (e : E) | zip (a b : E)
end
mutual
inductive S where
  | ret (e : E) | retN | expr (e : E) | pass
  | asg (t : Tg) (e : E) | put (o i e : E)
  | iff (c : E) (a b : Ss) | for_ (t : Tg) (it : I) (b : Ss)
inductive Ss where
  | nil | cons (s : S) (ss : Ss)
end

abbrev Slots := List (Option D)
abbrev CallF := Nat → List D → Store → Res D
/-- how a statement ends -/
inductive Fl where
  | nx (ρ : Slots) | rt (d : D)
  deriving Repr

/-- keys and values, one behind the other -/
def pairsD : List D → Option (List Ky × List D)
  | [] => some ([], [])
  | k :: v :: r => (kyOf k).bind fun k => (pairsD r).map fun p => (k :: p.1, v :: p.2)
  | _ => none
def setAll (ρ : Slots) : List Nat → List D → Option Slots
  | [], [] => some ρ
  | i :: is, d :: ds => setAll (ρ.set i (some d)) is ds
  | _, _ => none
def bindT (t : Tg) (d : D) (ρ : Slots) : Option Slots := match t with
  | .nm i => some (ρ.set i (some d))
  | .tu is => match d with
    | .tup ds => setAll ρ is ds
    | _ => none
def wipeD (ρ : Slots) : List Nat → Slots
  | [] => ρ
  | v :: vs => (wipeD ρ vs).set v none
/-- the items of what is walked; with it the place of a list that must not change on the way -/
structure Walked where
  xs : List D
  ats : List (Nat × List D)
mutual
def D.same : D → D → Bool
  | .non, .non => true
  | .bl a, .bl b => a == b
  | .int i, .int j => i == j
  | .str x, .str y => x == y
  | .tup xs, .tup ys => D.sameAll xs ys
  | .lst xs, .lst ys => D.sameAll xs ys
  | .ro xs, .ro ys => D.sameAll xs ys
  | .dct ks vs, .dct ks' vs' => decide (ks = ks') && D.sameAll vs vs'
  | .loc n, .loc m => n == m
  | _, _ => false
def D.sameAll : List D → List D → Bool
  | [], [] => true
  | x :: xs, y :: ys => D.same x y && D.sameAll xs ys
  | _, _ => false
end
def guardL (st : Store) : List (Nat × List D) → Bool
  | [] => true
  | p :: r => (match st[p.1]? with
    | some (.lst ys) => D.sameAll ys p.2
    | _ => false) && guardL st r
def guard (w : Walked) (st : Store) : Bool := guardL st w.ats
/-- a comprehension's turns: f gives none where the test fails -/
def lcL (g : Store → Bool) (f : D → Store → Res (Option D)) : List D → List D → Store → Res (List D)
  | [], acc, st => if g st = true then .ok acc st else .no
  | d :: r, acc, st => if g st = true then (f d st).bind fun o st => match o with
    | some y => if acc.length < LINE then lcL g f r (acc ++ [y]) st else .no
    | none => lcL g f r acc st
    else .no
def forL (g : Store → Bool) (f : D → Slots → Store → Res Fl) : List D → Slots → Store → Res Fl
  | [], ρ, st => if g st = true then .ok (.nx ρ) st else .no
  | d :: r, ρ, st => if g st = true then (f d ρ st).bind fun o st => match o with
    | .nx ρ => forL g f r ρ st
    | .rt v => .ok (.rt v) st
    else .no
/-- a list that is walked, whichever -/
def wlkL (d : D) (st : Store) : Option Walked := match d with
  | .lst xs => some ⟨xs, []⟩
  | .ro xs => some ⟨xs, []⟩
  | .loc n => match st[n]? with
    | some (.lst xs) => some ⟨xs, [(n, xs)]⟩
    | _ => none
  | _ => none
def itOf (d : D) (st : Store) : Option Walked := match d with
  | .tup xs => some ⟨xs, []⟩
  | .str s => some ⟨s.toList.map fun c => .str (String.ofList [c]), []⟩
  | d => wlkL d st
def rng (i j : Int) : List D := (List.range (j - i).toNat).map fun (k : Nat) => D.int (i + (k : Int))
def enumL (k : Nat) : List D → List D
  | [] => []
  | d :: r => .tup [.int k, d] :: enumL (k + 1) r
def zipL : List D → List D → List D
  | x :: xs, y :: ys => .tup [x, y] :: zipL xs ys
  | _, _ => []


def boolOf (d : D) (st : Store) : Res Bool := match d with
  | .bl b => .ok b st
  | _ => .no
mutual
def evE (C : CallF) (ρ : Slots) : E → Store → Res D
  | .lit d, st => .ok d st
  | .glo d, st => .ok d st
  | .var i, st => match ρ[i]? with
    | some (some d) => .ok d st
    | _ => .no
  | .bop o m a b, st => (evE C ρ a st).bind fun x st => (evE C ρ b st).bind fun y st => bop o m x y st
  | .neg a, st => (evE C ρ a st).bind fun x st => match x with
    | .int i => .ok (.int (-i)) st
    | _ => .no
  | .inot a, st => ((evE C ρ a st).bind boolOf).bind fun b st => .ok (.bl (!b)) st
  | .tru a, st => (evE C ρ a st).bind fun x st => .of ((truD st x).map D.bl) st
  | .cmp o a b, st => (evE C ρ a st).bind fun x st => (evE C ρ b st).bind fun y st => .of ((cmpV o x y st).map D.bl) st
  | .chn o p a b c, st => (evE C ρ a st).bind fun x st => (evE C ρ b st).bind fun y st => match cmpV o x y st with
    | some true => (evE C ρ c st).bind fun z st => .of ((cmpV p y z st).map D.bl) st
    | some false => .ok (.bl false) st
    | none => .no
  | .ands es, st => evAnd C ρ es st
  | .ors es, st => evOr C ρ es st
  | .ite c a b, st => ((evE C ρ c st).bind boolOf).bind fun t st => if t = true then evE C ρ a st else evE C ρ b st
  | .tup es, st => (evEs C ρ es st).bind fun ds st => if ds.length ≤ LINE then .ok (.tup ds) st else .no
  | .lst m es, st => (evEs C ρ es st).bind fun ds st => if ds.length ≤ LINE then newL m ds st else .no
  | .dct m es, st => (evEs C ρ es st).bind fun ds st => match pairsD ds with
    | some (ks, vs) => if ks.Nodup ∧ ks.length ≤ 15 then newD m ks vs st else .no
    | none => .no
  | .ix a i, st => (evE C ρ a st).bind fun x st => (evE C ρ i st).bind fun y st => .of (ixV x y st) st
  | .sl m a lo hi, st => (evE C ρ a st).bind fun x st => (evO C ρ lo st).bind fun l st => (evO C ρ hi st).bind fun h st => sliV m x l h st
  | .call f es, st => (evEs C ρ es st).bind fun ds st => C f ds st
  | .bi b m es, st => (evEs C ρ es st).bind fun ds st => biV b m ds st
  | .isi a t, st => (evE C ρ a st).bind fun x st => .of ((isTy st x t).map D.bl) st
  | .me f m o es, st => (evE C ρ o st).bind fun x st => if meIs st f x = true then (evEs C ρ es st).bind fun ds st => meV f m x ds st else .no
  | .lc m elt t it c own, st => (evI C ρ it st).bind fun w st => (lcL (guard w) (fun d st => match bindT t d (wipeD ρ own) with
      | none => .no
      | some ρ' => (evC C ρ' c st).bind fun b st => if b = true then (evE C ρ' elt st).bind fun y st => .ok (some y) st else .ok none st) w.xs [] st).bind fun ys st => newL m ys st
def evEs (C : CallF) (ρ : Slots) : Es → Store → Res (List D)
  | .nil, st => .ok [] st
  | .cons e es, st => (evE C ρ e st).bind fun d st => (evEs C ρ es st).bind fun ds st => .ok (d :: ds) st
/-- the value of a and b and .. -/
def evAnd (C : CallF) (ρ : Slots) : Es → Store → Res D
  | .nil, _ => .no
  | .cons e .nil, st => evE C ρ e st
  | .cons e es, st => ((evE C ρ e st).bind boolOf).bind fun b st => if b = true then evAnd C ρ es st else .ok (.bl false) st
def evOr (C : CallF) (ρ : Slots) : Es → Store → Res D
  | .nil, _ => .no
  | .cons e .nil, st => evE C ρ e st
  | .cons e es, st => ((evE C ρ e st).bind boolOf).bind fun b st => if b = true then .ok (.bl true) st else evOr C ρ es st
def evO (C : CallF) (ρ : Slots) : Oe → Store → Res (Option Int)
  | .non, st => .ok none st
  | .som e, st => (evE C ρ e st).bind fun d st => match d with
    | .int i => .ok (some i) st
    | _ => .no
/-- a comprehension's test -/
def evC (C : CallF) (ρ : Slots) : Oe → Store → Res Bool
  | .non, st => .ok true st
  | .som e, st => (evE C ρ e st).bind boolOf
def evI (C : CallF) (ρ : Slots) : I → Store → Res Walked
  | .it e, st => (evE C ρ e st).bind fun d st => .of (itOf d st) st
  | .rng a, st => (evE C ρ a st).bind fun d st => match d with
    | .int j => if -(2 ^ 62) ≤ j ∧ j < 2 ^ 62 then .ok ⟨rng 0 j, []⟩ st else .no
    | _ => .no
  | .rng2 a b, st => (evE C ρ a st).bind fun d st => (evE C ρ b st).bind fun f st => match d, f with
    | .int i, .int j => if (-(2 ^ 62) ≤ i ∧ i < 2 ^ 62) ∧ -(2 ^ 62) ≤ j ∧ j < 2 ^ 62 then .ok ⟨rng i j, []⟩ st else .no
    | _, _ => .no
  | .enum e, st => (evE C ρ e st).bind fun d st => .of ((wlkL d st).map fun w => ⟨enumL 0 w.xs, w.ats⟩) st
  | .zip a b, st => (evE C ρ a st).bind fun d st => (evE C ρ b st).bind fun f st => match d, f with
    | .tup xs, .tup ys => .ok ⟨zipL xs ys, []⟩ st
    | d, f => .of ((wlkL d st).bind fun v => (wlkL f st).map fun w => ⟨zipL v.xs w.xs, v.ats ++ w.ats⟩) st
end
mutual
def evS (C : CallF) : S → Slots → Store → Res Fl
  | .ret e, ρ, st => (evE C ρ e st).bind fun d st => .ok (.rt d) st
  | .retN, _, st => .ok (.rt .non) st
  | .expr e, ρ, st => (evE C ρ e st).bind fun _ st => .ok (.nx ρ) st
  | .pass, ρ, st => .ok (.nx ρ) st
  | .asg t e, ρ, st => (evE C ρ e st).bind fun d st => match bindT t d ρ with
    | some ρ => .ok (.nx ρ) st
    | none => .no
  | .put o i e, ρ, st => (evE C ρ e st).bind fun v st => (evE C ρ o st).bind fun x st => (evE C ρ i st).bind fun y st => match x, y with
    | .loc n, .int k => match st[n]? with
      | some (.lst xs) => match ixN xs.length k with
        | some j => .ok (.nx ρ) (st.set n (.lst (xs.set j v)))
        | none => .no
      | _ => .no
    | _, _ => .no
  | .iff c a b, ρ, st => ((evE C ρ c st).bind boolOf).bind fun t st => if t = true then evSs C a ρ st else evSs C b ρ st
  | .for_ t it b, ρ, st => (evI C ρ it st).bind fun w st => forL (guard w) (fun d ρ st => match bindT t d ρ with
    | none => .no
    | some ρ => evSs C b ρ st) w.xs ρ st
def evSs (C : CallF) : Ss → Slots → Store → Res Fl
  | .nil, ρ, st => .ok (.nx ρ) st
  | .cons s ss, ρ, st => (evS C s ρ st).bind fun f st => match f with
    | .nx ρ => evSs C ss ρ st
    | .rt d => .ok (.rt d) st
end
/-- a def: how many parameters, how many names, its body -/
structure Fn where
  np : Nat
  nn : Nat
  body : Ss
def startD (n : Nat) (ds : List D) : Slots := ds.map some ++ List.replicate (n - ds.length) none
def runB (C : CallF) (f : Fn) (ds : List D) (st : Store) : Res D := if ds.length = f.np then
    (evSs C f.body (startD f.nn ds) st).bind fun r st => match r with
    | .nx _ => .ok .non st
    | .rt d => .ok d st
  else .no
def callP (P : List Fn) : Nat → CallF
  | 0, _, _, _ => .no
  | k + 1, f, ds, st => match P[f]? with
    | some fn => runB (callP P k) fn ds st
    | none => .no
end Rx

set_option Elab.async false
set_option linter.all false
set_option maxRecDepth 100000
set_option maxHeartbeats 2000000
namespace Rx
open PySem L2

/-! ### what a value stands for -/
def kyK : Ky → Key
  | .i n => .inl n
  | .s x => .inr (Str.ofString x)
/-- the written part; what changes behind the interpreter's back -/
structure Bg where
  K : PySem.W.Frag
  hid : List Addr
def Out (B : Bg) (μ : List Addr) (a : Addr) : Prop := a ∉ μ ∧ a ∉ B.hid
section
variable (K : PySem.W.Frag) (B : Bg)
/-- a tuple at a, not one of the changing things | one of the written part -/
def TupS (a : Addr) (vs : List V) : Prop := ∃ (o : Obj) (its : Array Value) (n : Nat), K.lookup a = some o ∧ o.cls = .type "tuple" ∧ o.data = .seq its n ∧ its.size ≤ sizeLine ∧ Vals vs its.toList
def LstS (a : Addr) (vs : List V) : Prop := ∃ (o : Obj) (its : Array Value) (n : Nat), K.lookup a = some o ∧ o.cls = .type "list" ∧ o.dict = none ∧ o.data = .seq its n ∧ its.size ≤ sizeLine ∧ Vals vs its.toList
mutual
def Rep (H : Hp) (μ : List Addr) : D → V → Prop
  | .non, v => v = .non
  | .bl b, v => v = .bl b
  | .int i, v => v = .int i
  | .str s, v => v = .str (Str.ofString s)
  | .tup ds, v => ∃ a vs, v = .ref a ∧ ((Out B μ a ∧ Rd H a (.tup vs)) ∨ TupS B.K a vs) ∧ Reps H μ ds vs
  | .lst ds, v => ∃ a vs, v = .ref a ∧ (Out B μ a ∧ H a = some (.lst vs)) ∧ Reps H μ ds vs
  | .ro ds, v => ∃ a vs, v = .ref a ∧ ((Out B μ a ∧ Rd H a (.lst vs)) ∨ LstS B.K a vs) ∧ Reps H μ ds vs
  | .dct ks ds, v => ∃ a kvs, v = .ref a ∧ (Out B μ a ∧ H a = some (.dK kvs)) ∧ kvs.map Prod.fst = ks.map kyK ∧ Reps H μ ds (kvs.map Prod.snd)
  | .loc n, v => ∃ a, v = .ref a ∧ μ[n]? = some a
def Reps (H : Hp) (μ : List Addr) : List D → List V → Prop
  | [], vs => vs = []
  | d :: ds, vs => ∃ v r, vs = v :: r ∧ Rep H μ d v ∧ Reps H μ ds r
end
def CellOk (H : Hp) (μ : List Addr) (a : Addr) : Cell → Prop
  | .lst ds => ∃ vs, H a = some (.lst vs) ∧ Reps B H μ ds vs
  | .dct ks ds => ∃ kvs, H a = some (.dK kvs) ∧ kvs.map Prod.fst = ks.map kyK ∧ Reps B H μ ds (kvs.map Prod.snd)
structure StOk (H : Hp) (μ : List Addr) (st : Store) : Prop where
  len : μ.length = st.length
  nd : μ.Nodup
  hid : ∀ a ∈ B.hid, ∃ o, H a = some o
  cell : ∀ (n : Nat) (a : Addr) (c : Cell), μ[n]? = some a → st[n]? = some c → CellOk B H μ a c
end
/-- behind it: nothing but what may change was changed, what is new there was not known -/
structure Later (H : Hp) (μ : List Addr) (H' : Hp) (μ' : List Addr) : Prop where
  keep : ∀ a o, a ∉ μ → H a = some o → H' a = some o
  live : ∀ a o, H a = some o → ∃ o', H' a = some o'
  more : ∃ r, μ' = μ ++ r ∧ ∀ a ∈ r, H a = none
section
variable {H H' H1 H2 : Hp} {μ μ' μ1 μ2 : List Addr}
theorem Later.refl : Later H μ H μ := ⟨fun _ _ _ h => h, fun _ o h => ⟨o, h⟩, [], by simp, by simp⟩
theorem Later.out (L : Later H μ H' μ') {a : Addr} {o : HO} (h : a ∉ μ) (e : H a = some o) : a ∉ μ' := by
  obtain ⟨r, rfl, hr⟩ := L.more
  intro hm
  rcases List.mem_append.mp hm with z | z
  · exact h z
  · rw [hr a z] at e; cases e
theorem Later.at (L : Later H μ H' μ') {n : Nat} {a : Addr} (h : μ[n]? = some a) : μ'[n]? = some a := by
  obtain ⟨r, rfl, _⟩ := L.more
  rw [List.getElem?_append_left (List.getElem?_eq_some_iff.mp h).1]
  exact h
theorem Later.trans (x : Later H μ H1 μ1) (y : Later H1 μ1 H2 μ2) : Later H μ H2 μ2 := by
  refine ⟨fun a o h e => y.keep a o (x.out h e) (x.keep a o h e), fun a o e => ?_, ?_⟩
  · obtain ⟨o', e'⟩ := x.live a o e
    exact y.live a o' e'
  · obtain ⟨r, e1, h1⟩ := x.more
    obtain ⟨q, e2, h2⟩ := y.more
    refine ⟨r ++ q, by rw [e2, e1, List.append_assoc], fun a ha => ?_⟩
    rcases List.mem_append.mp ha with z | z
    · exact h1 a z
    · cases e : H a with
      | none => rfl
      | some o =>
        obtain ⟨o', e'⟩ := x.live a o e
        rw [h2 a z] at e'; cases e'
theorem Later.rd (L : Later H μ H' μ') {a : Addr} {u : HO} (h : a ∉ μ) (e : Rd H a u) : Rd H' a u := by
  rcases e with e | ⟨o, e⟩
  · exact .inl (L.keep a _ h e)
  · exact .inr ⟨o, L.keep a _ h e⟩
theorem Later.rdo (L : Later H μ H' μ') {a : Addr} {u : HO} (h : a ∉ μ) (e : Rd H a u) : a ∉ μ' := by
  rcases e with e | ⟨o, e⟩
  · exact L.out h e
  · exact L.out h e
/-- a new thing beside -/
theorem Later.new {p : Addr} {o : HO} (h : H p = none) : Later H μ (upd H p o) μ := by
  refine ⟨fun a u _ e => ?_, fun a u e => ⟨u, ?_⟩, [], by simp, by simp⟩ <;> (rw [upd_ne (ne_of_none e h)]; exact e)
/-- a new changing thing -/
theorem Later.newM {p : Addr} {o : HO} (h : H p = none) : Later H μ (upd H p o) (μ ++ [p]) := by
  refine ⟨fun a u _ e => ?_, fun a u e => ⟨u, ?_⟩, [p], rfl, fun a ha => ?_⟩
  · rw [upd_ne (ne_of_none e h)]; exact e
  · rw [upd_ne (ne_of_none e h)]; exact e
  · rw [List.mem_singleton.mp ha]; exact h
/-- a changing thing is changed -/
theorem Later.upd {a : Addr} {o : HO} (h : a ∈ μ) : Later H μ (L2.upd H a o) μ := by
  refine ⟨fun b u hb e => ?_, fun b u e => ?_, [], by simp, by simp⟩
  · rw [upd_ne (fun z : b = a => hb (by rw [z]; exact h))]; exact e
  · by_cases z : b = a
    · subst z; exact ⟨o, upd_same⟩
    · exact ⟨u, by rw [upd_ne z]; exact e⟩
variable {B : Bg}
/-- from one state to another one -/
structure Tran (B : Bg) (H : Hp) (μ : List Addr) (B' : Bg) (H' : Hp) (μ' : List Addr) : Prop where
  k : B'.K = B.K
  o : ∀ a o, Out B μ a → H a = some o → Out B' μ' a ∧ H' a = some o
  m : ∀ (n : Nat) a, μ[n]? = some a → μ'[n]? = some a
theorem Tran.rd {B B' : Bg} (t : Tran B H μ B' H' μ') {a : Addr} {u : HO} (h : Out B μ a) (e : Rd H a u) : Out B' μ' a ∧ Rd H' a u := by
  rcases e with e | ⟨o, e⟩
  · exact ⟨(t.o a _ h e).1, .inl (t.o a _ h e).2⟩
  · exact ⟨(t.o a _ h e).1, .inr ⟨o, (t.o a _ h e).2⟩⟩
variable {B' : Bg}
mutual
theorem Rep.tran (t : Tran B H μ B' H' μ') : ∀ (d : D) (v : V), Rep B H μ d v → Rep B' H' μ' d v
  | .non, _, h => h
  | .bl _, _, h => h
  | .int _, _, h => h
  | .str _, _, h => h
  | .tup ds, _, h => by
    obtain ⟨a, vs, e, q, r⟩ := h
    refine ⟨a, vs, e, ?_, Reps.tran t ds vs r⟩
    rcases q with ⟨h1, h2⟩ | q
    · exact .inl (t.rd h1 h2)
    · exact .inr (t.k ▸ q)
  | .lst ds, _, h => by
    obtain ⟨a, vs, e, ⟨h1, h2⟩, r⟩ := h
    exact ⟨a, vs, e, t.o a _ h1 h2, Reps.tran t ds vs r⟩
  | .ro ds, _, h => by
    obtain ⟨a, vs, e, q, r⟩ := h
    refine ⟨a, vs, e, ?_, Reps.tran t ds vs r⟩
    rcases q with ⟨h1, h2⟩ | q
    · exact .inl (t.rd h1 h2)
    · exact .inr (t.k ▸ q)
  | .dct ks ds, _, h => by
    obtain ⟨a, kvs, e, ⟨h1, h2⟩, hk, r⟩ := h
    exact ⟨a, kvs, e, t.o a _ h1 h2, hk, Reps.tran t ds _ r⟩
  | .loc n, _, h => by
    obtain ⟨a, e, h⟩ := h
    exact ⟨a, e, t.m n a h⟩
theorem Reps.tran (t : Tran B H μ B' H' μ') : ∀ (ds : List D) (vs : List V), Reps B H μ ds vs → Reps B' H' μ' ds vs
  | [], _, h => h
  | d :: ds, _, h => by
    obtain ⟨v, r, e, h1, h2⟩ := h
    exact ⟨v, r, e, Rep.tran t d v h1, Reps.tran t ds r h2⟩
end
theorem Later.tr (L : Later H μ H' μ') : Tran B H μ B H' μ' := ⟨rfl, fun a o h e => ⟨⟨L.out h.1 e, h.2⟩, L.keep a o h.1 e⟩, fun n a h => L.at h⟩
theorem Rep.mono (L : Later H μ H' μ') (d : D) (v : V) (h : Rep B H μ d v) : Rep B H' μ' d v := Rep.tran L.tr d v h
theorem Reps.mono (L : Later H μ H' μ') (d : List D) (v : List V) (h : Reps B H μ d v) : Reps B H' μ' d v := Reps.tran L.tr d v h
theorem CellOk.tran (t : Tran B H μ B' H' μ') {a : Addr} {c : Cell} (hs : ∀ o, H a = some o → H' a = some o) (h : CellOk B H μ a c) : CellOk B' H' μ' a c := by
  cases c with
  | lst ds =>
    obtain ⟨vs, e, r⟩ := h
    exact ⟨vs, hs _ e, Reps.tran t _ _ r⟩
  | dct ks ds =>
    obtain ⟨kvs, e, hk, r⟩ := h
    exact ⟨kvs, hs _ e, hk, Reps.tran t _ _ r⟩
/-- one more thing is hidden, which was not known -/
def Bg.hide (B : Bg) (p : Addr) : Bg := ⟨B.K, p :: B.hid⟩
theorem tr_hide {p : Addr} {o : HO} (hp : H p = none) : Tran B H μ (B.hide p) (L2.upd H p o) μ := ⟨rfl, fun a u h e => by
  refine ⟨⟨h.1, fun hm => ?_⟩, by rw [upd_ne (ne_of_none e hp)]; exact e⟩
  rcases List.mem_cons.mp hm with z | z
  · rw [z, hp] at e; cases e
  · exact h.2 z, fun _ _ h => h⟩
theorem tr_bare {p : Addr} : Tran (B.hide p) H μ B H μ := ⟨rfl, fun a o h e => ⟨⟨h.1, fun hm => h.2 (List.mem_cons_of_mem _ hm)⟩, e⟩, fun _ _ h => h⟩
/-- what is hidden is changed -/
theorem tr_upd {p : Addr} {o : HO} (h : p ∈ B.hid) : Tran B H μ B (L2.upd H p o) μ := ⟨rfl, fun a u ha e => ⟨ha, by rw [upd_ne (fun z : a = p => ha.2 (by rw [z]; exact h))]; exact e⟩, fun _ _ h => h⟩
theorem Reps.length : ∀ {ds : List D} {vs : List V}, Reps B H μ ds vs → vs.length = ds.length
  | [], _, h => by cases h; rfl
  | d :: ds, _, h => by
    obtain ⟨v, r, rfl, _, h2⟩ := h
    rw [List.length_cons, List.length_cons, Reps.length h2]
theorem Reps.get : ∀ {ds : List D} {vs : List V} {i : Nat} {d : D}, Reps B H μ ds vs → ds[i]? = some d → ∃ v, vs[i]? = some v ∧ Rep B H μ d v
  | [], _, _, _, _, e => by simp at e
  | d :: ds, _, 0, _, h, e => by
    obtain ⟨v, r, rfl, h1, _⟩ := h
    simp at e; subst e
    exact ⟨v, rfl, h1⟩
  | d :: ds, _, i + 1, x, h, e => by
    obtain ⟨v, r, rfl, _, h2⟩ := h
    obtain ⟨w, h3, h4⟩ := Reps.get (i := i) (d := x) h2 (by simpa using e)
    exact ⟨w, by simpa using h3, h4⟩
theorem Reps.app : ∀ {ds es : List D} {vs ws : List V}, Reps B H μ ds vs → Reps B H μ es ws → Reps B H μ (ds ++ es) (vs ++ ws)
  | [], _, _, _, h, k => by cases h; exact k
  | d :: ds, _, _, _, h, k => by
    obtain ⟨v, r, rfl, h1, h2⟩ := h
    exact ⟨v, _, rfl, h1, Reps.app h2 k⟩
theorem Reps.drop : ∀ {ds : List D} {vs : List V} (n : Nat), Reps B H μ ds vs → Reps B H μ (ds.drop n) (vs.drop n)
  | _, _, 0, h => h
  | [], _, n + 1, h => by cases h; exact rfl
  | d :: ds, _, n + 1, h => by
    obtain ⟨v, r, rfl, _, h2⟩ := h
    exact Reps.drop n h2
theorem Reps.take : ∀ {ds : List D} {vs : List V} (n : Nat), Reps B H μ ds vs → Reps B H μ (ds.take n) (vs.take n)
  | _, _, 0, _ => rfl
  | [], _, n + 1, h => by cases h; exact rfl
  | d :: ds, _, n + 1, h => by
    obtain ⟨v, r, rfl, h1, h2⟩ := h
    exact ⟨v, _, rfl, h1, Reps.take n h2⟩
theorem Reps.set : ∀ {ds : List D} {vs : List V} (n : Nat) {d : D} {v : V}, Reps B H μ ds vs → Rep B H μ d v → Reps B H μ (ds.set n d) (vs.set n v)
  | [], _, _, _, _, h, _ => by cases h; exact rfl
  | d :: ds, _, 0, _, _, h, k => by
    obtain ⟨v, r, rfl, h1, h2⟩ := h
    exact ⟨_, _, rfl, k, h2⟩
  | d :: ds, _, n + 1, _, _, h, k => by
    obtain ⟨v, r, rfl, h1, h2⟩ := h
    exact ⟨_, _, rfl, h1, Reps.set n h2 k⟩
theorem Reps.flat {ds : List D} {vs : List V} (h : Reps B H μ ds vs) : ∀ k : Nat, Reps B H μ (List.replicate k ds).flatten (List.replicate k vs).flatten
  | 0 => rfl
  | k + 1 => by
    rw [List.replicate_succ, List.replicate_succ, List.flatten_cons, List.flatten_cons]
    exact Reps.app h (Reps.flat h k)
theorem Reps.mapI : ∀ {is : List Int} {vs : List V}, Reps B H μ (is.map D.int) vs → vs = is.map V.int
  | [], _, h => by cases h; rfl
  | i :: is, _, h => by
    obtain ⟨v, r, rfl, h1, h2⟩ := h
    rw [List.map_cons, ← Reps.mapI h2]
    congr
theorem CellOk.mono (L : Later H μ H' μ') {a : Addr} {c : Cell} (hs : ∀ o, H a = some o → H' a = some o) (h : CellOk B H μ a c) : CellOk B H' μ' a c := by
  cases c with
  | lst ds =>
    obtain ⟨vs, e, r⟩ := h
    exact ⟨vs, hs _ e, Reps.mono L _ _ r⟩
  | dct ks ds =>
    obtain ⟨kvs, e, hk, r⟩ := h
    exact ⟨kvs, hs _ e, hk, Reps.mono L _ _ r⟩
theorem CellOk.there {a : Addr} {c : Cell} (h : CellOk B H μ a c) : ∃ o, H a = some o := by
  cases c with
  | lst ds => obtain ⟨vs, e, r⟩ := h; exact ⟨_, e⟩
  | dct ks ds => obtain ⟨kvs, e, _⟩ := h; exact ⟨_, e⟩
variable {st : Store}
theorem StOk.at (S : StOk B H μ st) {n : Nat} {a : Addr} (h : μ[n]? = some a) : ∃ c, st[n]? = some c ∧ CellOk B H μ a c := by
  have hn : n < st.length := by rw [← S.len]; exact (List.getElem?_eq_some_iff.mp h).1
  exact ⟨st[n], List.getElem?_eq_getElem hn, S.cell n a _ h (List.getElem?_eq_getElem hn)⟩
theorem StOk.of (S : StOk B H μ st) {n : Nat} {c : Cell} (h : st[n]? = some c) : ∃ a, μ[n]? = some a ∧ CellOk B H μ a c := by
  have hn : n < μ.length := by rw [S.len]; exact (List.getElem?_eq_some_iff.mp h).1
  exact ⟨μ[n], List.getElem?_eq_getElem hn, S.cell n _ _ (List.getElem?_eq_getElem hn) h⟩
theorem StOk.there (S : StOk B H μ st) {a : Addr} (h : a ∈ μ) : ∃ o, H a = some o := by
  obtain ⟨n, hn⟩ := List.getElem?_of_mem h
  obtain ⟨c, _, k⟩ := S.at hn
  exact k.there
theorem StOk.fresh (S : StOk B H μ st) {p : Addr} (h : H p = none) : Out B μ p := by
  refine ⟨fun hm => ?_, fun hm => ?_⟩
  · obtain ⟨o, e⟩ := S.there hm
    rw [h] at e; cases e
  · obtain ⟨o, e⟩ := S.hid p hm
    rw [h] at e; cases e
theorem StOk.new (S : StOk B H μ st) {p : Addr} {o : HO} (h : H p = none) : StOk B (upd H p o) μ st := by
  refine ⟨S.len, S.nd, fun a ha => (S.hid a ha).elim fun o e => (Later.new (μ := μ) h).live a o e, fun n a c h1 h2 => (S.cell n a c h1 h2).mono (Later.new h) fun u e => ?_⟩
  rw [upd_ne (ne_of_none e h)]; exact e
/-- a new thing, hidden -/
theorem StOk.hide (S : StOk B H μ st) {p : Addr} {o : HO} (h : H p = none) : StOk (B.hide p) (L2.upd H p o) μ st := by
  refine ⟨S.len, S.nd, fun a ha => ?_, fun n a c h1 h2 => (S.cell n a c h1 h2).tran (tr_hide h) fun u e => ?_⟩
  · rcases List.mem_cons.mp ha with z | z
    · exact ⟨o, by rw [z]; exact upd_same⟩
    · exact (S.hid a z).elim fun o e => (Later.new (μ := μ) h).live a o e
  · rw [upd_ne (ne_of_none e h)]; exact e
theorem StOk.bare {p : Addr} (S : StOk (B.hide p) H μ st) : StOk B H μ st :=
  ⟨S.len, S.nd, fun a ha => S.hid a (List.mem_cons_of_mem _ ha), fun n a c h1 h2 => (S.cell n a c h1 h2).tran tr_bare fun _ e => e⟩
/-- what is hidden is changed -/
theorem StOk.updH (S : StOk B H μ st) {p : Addr} {o : HO} (h : p ∈ B.hid) (h' : p ∉ μ) : StOk B (L2.upd H p o) μ st := by
  refine ⟨S.len, S.nd, fun a ha => ?_, fun n a c h1 h2 => (S.cell n a c h1 h2).tran (tr_upd h) fun u e => ?_⟩
  · by_cases z : a = p
    · exact ⟨o, by rw [z]; exact upd_same⟩
    · obtain ⟨u, e⟩ := S.hid a ha
      exact ⟨u, by rw [upd_ne z]; exact e⟩
  · have ne : a ≠ p := fun z => h' (z ▸ List.mem_of_getElem? h1)
    rw [upd_ne ne]; exact e
theorem StOk.newM (S : StOk B H μ st) {p : Addr} {o : HO} {c : Cell} (h : H p = none) (hc : CellOk B (upd H p o) (μ ++ [p]) p c) : StOk B (upd H p o) (μ ++ [p]) (st ++ [c]) := by
  refine ⟨by rw [List.length_append, List.length_append, S.len]; rfl, ?_, fun a ha => (S.hid a ha).elim fun o e => (Later.newM (μ := μ) h).live a o e, fun n a c' h1 h2 => ?_⟩
  · rw [List.nodup_append]
    refine ⟨S.nd, by simp, fun a ha b hb => ?_⟩
    rw [List.mem_singleton.mp hb]
    exact fun e => (S.fresh h).1 (e ▸ ha)
  · by_cases hn : n < μ.length
    · rw [List.getElem?_append_left hn] at h1
      rw [List.getElem?_append_left (by rw [← S.len]; exact hn)] at h2
      refine (S.cell n a c' h1 h2).mono (Later.newM h) fun u e => ?_
      rw [upd_ne (ne_of_none e h)]; exact e
    · have hn' : n = μ.length := by
        have := (List.getElem?_eq_some_iff.mp h1).1
        rw [List.length_append] at this
        simp at this; omega
      subst hn'
      rw [List.getElem?_append_right (Nat.le_refl _), Nat.sub_self] at h1
      rw [S.len, List.getElem?_append_right (Nat.le_refl _), Nat.sub_self] at h2
      simp at h1 h2; subst h1 h2
      exact hc
theorem nodup_inj {α : Type} {l : List α} (hd : l.Nodup) {i j : Nat} (hi : i < l.length) (hj : j < l.length) (e : l[i] = l[j]) : i = j := by
  have q := List.pairwise_iff_getElem.mp hd
  rcases Nat.lt_trichotomy i j with h | h | h
  · exact absurd e (q i j hi hj h)
  · exact h
  · exact absurd e.symm (q j i hj hi h)
theorem StOk.upd (S : StOk B H μ st) {n : Nat} {a : Addr} {o : HO} {c : Cell} (h : μ[n]? = some a) (hc : CellOk B (L2.upd H a o) μ a c) : StOk B (L2.upd H a o) μ (st.set n c) := by
  have hn : n < μ.length := (List.getElem?_eq_some_iff.mp h).1
  refine ⟨by rw [List.length_set]; exact S.len, S.nd, fun b hb => (S.hid b hb).elim fun u e => (Later.upd (List.mem_of_getElem? h)).live b u e, fun m b c' h1 h2 => ?_⟩
  by_cases z : m = n
  · subst z
    rw [List.getElem?_set_self (by rw [← S.len]; exact hn)] at h2
    rw [h] at h1
    cases h1; cases h2
    exact hc
  · rw [List.getElem?_set_ne (fun e => z e.symm)] at h2
    have hm : m < μ.length := (List.getElem?_eq_some_iff.mp h1).1
    have ne : b ≠ a := by
      intro e
      subst e
      have e1 := (List.getElem?_eq_some_iff.mp h1).2
      have e2 := (List.getElem?_eq_some_iff.mp h).2
      exact z (nodup_inj S.nd hm hn (e1.trans e2.symm))
    refine (S.cell m b c' h1 h2).mono (Later.upd (List.mem_of_getElem? h)) fun u e => ?_
    rw [upd_ne ne]; exact e
end
end Rx

set_option Elab.async false
set_option linter.all false
set_option maxRecDepth 100000
set_option maxHeartbeats 4000000
/-! a tuple times 1, 0 or less -/
namespace Rx
open PySem PySem.Spec PyProof.Rows L2
/-- t * 1 is t -/
theorem tuple_mul1 (l : Addr) (items : Array Value) (n : Nat) (dd : Option Addr) (sl : Array (Option Value)) (u : Tok) :
    Meets (Builtin.«tuple.__mul__» ⟨[.ref l, .int 1 u], []⟩) (fun _ R s => s.heap.get? l = some { cls := .type "tuple", dict := dd, data := .seq items n, slots := sl } ∧ R (.ok (.ret (Value.ref l))) s) :=
  .of_wp fun prog w A R s h => by
    obtain ⟨hp, g, d, tk, os⟩ := s
    obtain ⟨hl, h⟩ := h
    have f1 := AutoSeq1.idx_int
    have z0 : (decide ((1 : Int) < -(2 ^ 63)) || decide ((1 : Int) ≥ 2 ^ 63)) = false := by decide
    have z1 : (items.isEmpty || (1 : Int) == 1) = true := by rw [Bool.or_eq_true]; exact .inr rfl
    wp_walk using wpAny_loadPart' hl
    repeat (first
      | (refine wpAny_ite_false (decide_eq_false (by rw [z0]; exact Bool.false_ne_true)) ?_; wp_walk using wpAny_loadPart' hl)
      | (refine wpAny_ite_true (decide_eq_true (by rw [z1])) ?_; wp_walk using wpAny_loadPart' hl))
    exact ⟨_, rfl, h⟩
/-- t * 0 is a new empty tuple -/
theorem tuple_mul0 (l : Addr) (items : Array Value) (n : Nat) (dd : Option Addr) (sl : Array (Option Value)) (x : Int) (u : Tok) (z0 : (decide (x < -(2 ^ 63)) || decide (x ≥ 2 ^ 63)) = false) (z1 : (items.isEmpty || x == 1) = false) (z2 : (decide (x ≤ 0) || items.isEmpty) = true) :
    Meets (Builtin.«tuple.__mul__» ⟨[.ref l, .int x u], []⟩) (fun _ R s => s.heap.get? l = some { cls := .type "tuple", dict := dd, data := .seq items n, slots := sl } ∧
      R (.ok (.ret (Value.ref s.heap.objs.size))) { s with heap := s.heap.push { cls := Value.type "tuple", data := Data.seq #[] }, toks := s.toks }) :=
  .of_wp fun prog w A R s h => by
    obtain ⟨hp, g, d, tk, os⟩ := s
    obtain ⟨hl, h⟩ := h
    have f1 := AutoSeq1.idx_int
    wp_walk using wpAny_loadPart' hl
    repeat (first
      | (refine wpAny_ite_false (decide_eq_false (by rw [z0]; exact Bool.false_ne_true)) ?_; wp_walk using wpAny_loadPart' hl)
      | (refine wpAny_ite_false (decide_eq_false (by rw [z1]; exact Bool.false_ne_true)) ?_; wp_walk using wpAny_loadPart' hl)
      | (refine wpAny_ite_true (decide_eq_true (by rw [z2])) ?_; wp_walk using wpAny_loadPart' hl))
    exact ⟨_, rfl, h⟩
def rRep1 (K : PySem.W.Frag) : R2 := fun x y H Q => ∃ l xs, x = .ref l ∧ y = .int 1 ∧ SqT K H l xs ∧ Q (.ref l) H
def rRep0 (K : PySem.W.Frag) : R2 := fun x y H Q => ∃ l k xs, x = .ref l ∧ y = .int k ∧ SqT K H l xs ∧ xs ≠ [] ∧ -(2 ^ 63) ≤ k ∧ k ≤ 0 ∧ ∀ p, H p = none → Q (.ref p) (upd H p (.tup []))
section
variable {X : Cx}
theorem op_rep1 : OpR X (binaryOp .Mult) (rRep1 X.K) := by
  intro pins s σ H x y v u Q I rx ry h
  obtain ⟨l, xs, rfl, rfl, hT, q⟩ := h
  cases rx
  obtain ⟨t, rfl⟩ := ry
  obtain ⟨its, r, ⟨⟨cls, dd, data, sl⟩, ho, hc, n, hd⟩, hs⟩ := I.tuple hT
  simp only at hc hd
  subst hc hd
  refine wpAny_binaryOp_repeat_ref (T := "tuple") (U := "int") (by decide) ⟨_, ho, rfl⟩ (fun s' => typeIs_int s' 1 t) noFill_tuple_mul F.fills_int_mul F.slot_int_rmul repeat_tuple F.slot_int_index.lookup
    (call_meets F.slot_int_rmul (typeIs_int s 1 t) F.entry_int_rmul (F.args_int_rmul_2 _ _) (int_rmul_tuple 1 t l its.toArray n dd sl)
      ⟨ho, rfl, ⟨_, ho, rfl⟩, call_meets F.slot_tuple_mul ⟨_, ho, rfl⟩ F.entry_tuple_mul (F.args_tuple_mul_2 _ _) (tuple_mul1 l its.toArray n dd sl t) ⟨ho, ?_⟩⟩)
  exact ⟨.ref l, H, I, rfl, q⟩
theorem op_rep0 : OpR X (binaryOp .Mult) (rRep0 X.K) := by
  intro pins s σ H x y v u Q I rx ry h
  obtain ⟨l, k, xs, rfl, rfl, hT, hne, h1, h2, q⟩ := h
  cases rx
  obtain ⟨t, rfl⟩ := ry
  obtain ⟨its, r, ⟨⟨cls, dd, data, sl⟩, ho, hc, n, hd⟩, hs⟩ := I.tuple hT
  simp only at hc hd
  subst hc hd
  have hle : its.length = xs.length := r.length.symm
  have hn : its ≠ [] := fun e => hne (by
    rw [e] at hle
    exact List.eq_nil_of_length_eq_zero hle.symm)
  have hi : its.toArray.isEmpty = false := by
    cases its with
    | nil => exact absurd rfl hn
    | cons a b => rfl
  have z0 : (decide (k < -(2 ^ 63)) || decide (k ≥ 2 ^ 63)) = false := by
    rw [decide_eq_false (by omega), decide_eq_false (by omega)] <;> rfl
  have z1 : (its.toArray.isEmpty || k == 1) = false := by
    rw [hi, Bool.false_or]
    exact beq_eq_false_iff_ne.mpr (by omega)
  have z2 : (decide (k ≤ 0) || its.toArray.isEmpty) = true := by
    rw [decide_eq_true h2]; rfl
  refine wpAny_binaryOp_repeat_ref (T := "tuple") (U := "int") (by decide) ⟨_, ho, rfl⟩ (fun s' => typeIs_int s' k t) noFill_tuple_mul F.fills_int_mul F.slot_int_rmul repeat_tuple F.slot_int_index.lookup
    (call_meets F.slot_int_rmul (typeIs_int s k t) F.entry_int_rmul (F.args_int_rmul_2 _ _) (int_rmul_tuple k t l its.toArray n dd sl)
      ⟨ho, rfl, ⟨_, ho, rfl⟩, call_meets F.slot_tuple_mul ⟨_, ho, rfl⟩ F.entry_tuple_mul (F.args_tuple_mul_2 _ _) (tuple_mul0 l its.toArray n dd sl k t z0 z1 z2) ⟨ho, ?_⟩⟩)
  refine ⟨.ref s.heap.objs.size, _, I.laid (t' := s.toks) (o := .tup []) (fun b ob q => Heap.get?_push_of_some _ q) (Nat.le_refl _) ?_, rfl, q _ (I.hok.fresh (Nat.le_refl _))⟩
  exact ⟨Nat.zero_le _, _, .nil, IsTup.new _ _⟩
end
end Rx
namespace Rx
open PySem PySem.Spec PyProof.Rows L2
/-- a text some times -/
def repS (x : Str) (k : Int) : Str := ⟨(List.replicate k.toNat x.cps.toList).flatten.toArray⟩
theorem fold_rep (x : Array Nat) : ∀ (m : Nat) (acc : Array Nat), (List.replicate m x).foldl (· ++ ·) acc = acc ++ (List.replicate m x.toList).flatten.toArray
  | 0, acc => by simp
  | m + 1, acc => by
    rw [List.replicate_succ, List.foldl_cons, fold_rep x m (acc ++ x), List.replicate_succ, List.flatten_cons]
    apply Array.ext'
    simp
def rRepS : R2 := fun x y H Q => ∃ a k, x = .str a ∧ y = .int k ∧ -(2 ^ 63) ≤ k ∧ k ≤ 1000 ∧ a.length ≤ 1000 ∧ Q (.str (repS a k)) H
theorem op_repS {X : Cx} : OpR X (binaryOp .Mult) rRepS := by
  intro pins s σ H x y v u Q I rx ry h
  obtain ⟨a, k, rfl, rfl, h1, h2, h3, q⟩ := h
  obtain ⟨t, rfl⟩ := rx
  obtain ⟨t', rfl⟩ := ry
  have hp : ¬ k < 1 → ((a.length : Nat) : Int) * k ≤ 1000000 := fun h => by
    have a1 : ((a.length : Nat) : Int) * k ≤ 1000 * k := Int.mul_le_mul_of_nonneg_right (by omega) (by omega)
    omega
  refine P.mul_str (by rw [decide_eq_false (by omega), decide_eq_false (by omega)] <;> rfl) (fun c _ => ?_) (fun c _ => ?_) ?_
  · have := Int.le_ediv_of_mul_le (a := ((a.length : Nat) : Int)) (b := 2 ^ 63 - 1) (c := k) (by omega) (by have := hp c; omega)
    omega
  · have h4 := hp c
    have h5 : ((a.length * k.toNat : Nat) : Int) = ((a.length : Nat) : Int) * k := by rw [Int.natCast_mul, Int.toNat_of_nonneg (by omega)]
    unfold Builtin.Str.tooLong
    rw [sizeLine_eq]
    exact decide_eq_false (by omega)
  · have fin : ∀ (x : Str), x = repS a k → ∀ s', Inv X pins σ H s' → ∀ t', EP X pins σ Q (.str x t') s' := fun x e s' I' t' => ⟨.str x, H, I', ⟨t', rfl⟩, e ▸ q⟩
    by_cases c : k < 1
    · rw [if_pos c]
      refine ⟨by decide, fin _ ?_ _ (I.tok _) _⟩
      unfold repS
      rw [show k.toNat = 0 by omega]
      rfl
    · rw [if_neg c]
      by_cases c2 : (k == 1 || a.length == 0) = true
      · rw [if_pos c2]
        refine fin _ ?_ _ I _
        rcases Bool.or_eq_true _ _ ▸ c2 with e | e
        · have e : k = 1 := by simpa using e
          subst e
          simp [repS]
        · have e : a.cps = #[] := by
            have : a.cps.size = 0 := by simpa [Str.length] using e
            exact Array.eq_empty_of_size_eq_zero this
          obtain ⟨c⟩ := a
          simp only at e
          subst e
          simp [repS]
      · rw [if_neg c2]
        have e : (List.replicate k.toNat a.cps).foldl (· ++ ·) #[] = (List.replicate k.toNat a.cps.toList).flatten.toArray := by
          rw [fold_rep]
          apply Array.ext'
          simp
        rw [e]
        refine ⟨?_, fin _ rfl _ (I.tok _) _⟩
        have h4 := hp c
        have h5 : ((a.length * k.toNat : Nat) : Int) = ((a.length : Nat) : Int) * k := by rw [Int.natCast_mul, Int.toNat_of_nonneg (by omega)]
        show (List.replicate k.toNat a.cps.toList).flatten.toArray.size ≤ sizeLine
        rw [List.size_toArray, PyProof.Rows.lm_len_rep_flat, sizeLine_eq]
        have h6 : a.cps.toList.length = a.length := Array.length_toList
        rw [h6, Nat.mul_comm]
        omega
end Rx

set_option Elab.async false
set_option linter.all false
set_option maxRecDepth 100000
set_option maxHeartbeats 2000000
set_option autoImplicit false
namespace Rx
open PySem L2 TL

/-! ### texts -/
theorem tl_s (s : String) : tl (Str.ofString s) = s.toList.map Char.toNat := tl_ofString s
theorem cps_s (s : String) : (Str.ofString s).cps.toList = s.toList.map Char.toNat := tl_ofString s
theorem len_s (s : String) : (Str.ofString s).length = s.length := by
  rw [len_tl, tl_s, List.length_map, String.length_toList]
theorem app_s (s t : String) : Str.ofString (s ++ t) = Str.ofString s ++ Str.ofString t := by
  apply ext_tl
  rw [tl_append, tl_s, tl_s, tl_s, String.toList_append, List.map_append]
theorem of_tl {x : Str} {l : List Char} (h : tl x = l.map Char.toNat) : x = Str.ofString (String.ofList l) := by
  apply ext_tl
  rw [h, tl_s, String.toList_ofList]
theorem char_inj {a b : Char} (h : a.toNat = b.toNat) : a = b := Char.toNat_inj.mp h
theorem map_inj : ∀ {l m : List Char}, l.map Char.toNat = m.map Char.toNat → l = m
  | [], [], _ => rfl
  | [], _ :: _, h => by simp at h
  | _ :: _, [], h => by simp at h
  | a :: l, b :: m, h => by
    rw [List.map_cons, List.map_cons] at h
    injection h with h1 h2
    rw [char_inj h1, map_inj h2]
theorem s_inj {s t : String} (h : Str.ofString s = Str.ofString t) : s = t := by
  apply String.toList_inj.mp
  apply map_inj
  rw [← tl_s, ← tl_s, h]
theorem sign_s (c : Char) : (⟨#[c.toNat]⟩ : Str) = Str.ofString (String.ofList [c]) := by
  apply ext_tl
  rw [tl_s, String.toList_ofList]
  rfl
theorem line_eq : sizeLine = LINE := by rw [sizeLine_eq]; rfl

/-! ### readings of evaluations -/
section
variable {α β γ δ : Type}
abbrev RR (α β : Type) := Bg → Hp → List Addr → α → β → Prop
def repD : RR D V := fun B H μ d v => Rep B H μ d v
def repDs : RR (List D) (List V) := fun B H μ d v => Reps B H μ d v
def repB : RR Bool Bool := fun _ _ _ d v => d = v
def repO : RR (Option Int) (Option Int) := fun _ _ _ d v => d = v
def Wd (B : Bg) (H : Hp) (μ : List Addr) (R : RR α β) (r : Res α) (Q : β → Hp → Prop) : Prop :=
  ∃ d st', r = .ok d st' ∧ ∀ v H' μ', Later H μ H' μ' → StOk B H' μ' st' → R B H' μ' d v → Q v H'
structure Now (B : Bg) (H : Hp) (μ : List Addr) (ρ : Slots) (σ : L2.St) (st : Store) : Prop where
  st : StOk B H μ st
  len : ρ.length = σ.length
  sl : ∀ (i : Nat) (d : D), ρ[i]? = some (some d) → ∃ v, σ[i]? = some (some v) ∧ Rep B H μ d v
def tR (K : PySem.W.Frag) (R : RR α β) (f : Slots → Store → Res α) : L2.St → Hp → (β → Hp → Prop) → Prop := fun σ H Q =>
  ∃ B μ ρ st, B.K = K ∧ Now B H μ ρ σ st ∧ Wd B H μ R (f ρ st) Q
variable {B : Bg} {H H' H1 : Hp} {μ μ' μ1 : List Addr} {ρ : Slots} {σ : L2.St} {st st1 : Store} {R : RR α β} {R' : RR γ δ}
theorem Now.later (N : Now B H μ ρ σ st) (L : Later H μ H1 μ1) (S : StOk B H1 μ1 st1) : Now B H1 μ1 ρ σ st1 :=
  ⟨S, N.len, fun i d e => let ⟨v, h1, h2⟩ := N.sl i d e; ⟨v, h1, Rep.mono L d v h2⟩⟩
theorem Wd.imp {r : Res α} {Q Q' : β → Hp → Prop} (W : Wd B H μ R r Q) (h : ∀ x H1, Q x H1 → Q' x H1) : Wd B H μ R r Q' :=
  let ⟨d, st', e, k⟩ := W
  ⟨d, st', e, fun v H' μ' L S r => h v H' (k v H' μ' L S r)⟩
theorem Wd.seq {r : Res α} {g : α → Store → Res γ} {Q : δ → Hp → Prop} (W : Wd B H μ R' (r.bind g) Q) :
    Wd B H μ R r (fun x H1 => ∃ μ1 d st1, Later H μ H1 μ1 ∧ StOk B H1 μ1 st1 ∧ R B H1 μ1 d x ∧ Wd B H1 μ1 R' (g d st1) Q) := by
  obtain ⟨e, st', h, k⟩ := W
  cases r with
  | no => cases h
  | ok d st1 => exact ⟨d, st1, rfl, fun v H1 μ1 L S rep => ⟨μ1, d, st1, L, S, rep, e, st', h, fun v H' μ' L' S' r' => k v H' μ' (L.trans L') S' r'⟩⟩
/-- it is there as it stands -/
theorem Wd.here {d : α} {st : Store} {x : β} {Q : β → Hp → Prop} (W : Wd B H μ R (.ok d st) Q) (S : StOk B H μ st) (r : R B H μ d x) : Q x H := by
  obtain ⟨d', st', e, k⟩ := W
  cases e
  exact k x H μ Later.refl S r
theorem Wd.not {Q : β → Hp → Prop} (W : Wd B H μ R .no Q) : False := by
  obtain ⟨d', st', e, k⟩ := W
  cases e
/-- it is there in a heap with a new thing -/
theorem Wd.new {d : α} {st : Store} {x : β} {Q : β → Hp → Prop} {p : Addr} {o : HO} (W : Wd B H μ R (.ok d st) Q) (S : StOk B H μ st) (h : H p = none) (r : R B (upd H p o) μ d x) : Q x (upd H p o) := by
  obtain ⟨d', st', e, k⟩ := W
  cases e
  exact k x _ μ (Later.new h) (S.new h) r
end

section
variable {B : Bg} {H : Hp} {μ : List Addr} {st : Store} {a b d : D} {x y : V} {Q : VK} {m : Bool} {xs ys : List D}
/-! ### lists and tuples -/
theorem Reps.nil {ds : List D} (r : Reps B H μ ds []) : ds = [] := by
  cases ds with
  | nil => rfl
  | cons d ds =>
    obtain ⟨_, _, e, _⟩ := r
    cases e
theorem sqT_of {ds : List D} (r : Rep B H μ (.tup ds) x) : ∃ p vs, x = .ref p ∧ SqT B.K H p vs ∧ Reps B H μ ds vs := by
  obtain ⟨p, vs, rfl, t, r⟩ := r
  refine ⟨p, vs, rfl, ?_, r⟩
  rcases t with t | t
  · exact .inl t.2
  · exact .inr t
theorem lst_rep (S : StOk B H μ st) (e : lstOf st a = some xs) (r : Rep B H μ a x) : ∃ p vs, x = .ref p ∧ H p = some (.lst vs) ∧ Reps B H μ xs vs := by
  cases a <;> simp only [lstOf] at e <;> try (cases e)
  · obtain ⟨p, vs, rfl, ⟨_, h⟩, r⟩ := r
    exact ⟨p, vs, rfl, h, r⟩
  · obtain ⟨p, rfl, h⟩ := r
    split at e
    · rename_i q
      cases e
      obtain ⟨a, h', c⟩ := S.of q
      rw [h] at h'; cases h'
      obtain ⟨vs, h2, r⟩ := c
      exact ⟨p, vs, rfl, h2, r⟩
    · cases e
theorem seq_rep (S : StOk B H μ st) (e : seqOf st a = some xs) (r : Rep B H μ a x) : ∃ p vs, x = .ref p ∧ (SqL B.K H p vs ∨ SqT B.K H p vs) ∧ Reps B H μ xs vs := by
  cases a <;> simp only [seqOf] at e <;> try (cases e)
  · obtain ⟨p, vs, rfl, t, r⟩ := sqT_of r
    exact ⟨p, vs, rfl, .inr t, r⟩
  · obtain ⟨p, vs, rfl, ⟨_, h⟩, r⟩ := r
    exact ⟨p, vs, rfl, .inl (SqL.of h), r⟩
  · obtain ⟨p, vs, rfl, t, r⟩ := r
    refine ⟨p, vs, rfl, .inl ?_, r⟩
    rcases t with t | t
    · exact .inl t.2
    · exact .inr t
  · obtain ⟨p, rfl, h⟩ := r
    split at e
    · rename_i q
      cases e
      obtain ⟨a, h', c⟩ := S.of q
      rw [h] at h'; cases h'
      obtain ⟨vs, h2, r⟩ := c
      exact ⟨p, vs, rfl, .inl (SqL.of h2), r⟩
    · cases e
theorem lro_rep (S : StOk B H μ st) (e : lroOf st a = some xs) (r : Rep B H μ a x) : ∃ p vs, x = .ref p ∧ SqL B.K H p vs ∧ Reps B H μ xs vs := by
  cases a <;> simp only [lroOf] at e <;> try (cases e)
  · obtain ⟨p, vs, rfl, ⟨_, h⟩, r⟩ := r
    exact ⟨p, vs, rfl, SqL.of h, r⟩
  · obtain ⟨p, vs, rfl, t, r⟩ := r
    refine ⟨p, vs, rfl, ?_, r⟩
    rcases t with t | t
    · exact .inl t.2
    · exact .inr t
  · obtain ⟨p, rfl, h⟩ := r
    split at e
    · rename_i q
      cases e
      obtain ⟨a, h', c⟩ := S.of q
      rw [h] at h'; cases h'
      obtain ⟨vs, h2, r⟩ := c
      exact ⟨p, vs, rfl, SqL.of h2, r⟩
    · cases e
mutual
/-- what == asks of a thing's place -/
def Re (K : PySem.W.Frag) (H : Hp) : D → V → Prop
  | .non, v => v = .non
  | .bl b, v => v = .bl b
  | .int i, v => v = .int i
  | .str s, v => v = .str (Str.ofString s)
  | .tup ds, v => ∃ a vs, v = .ref a ∧ SqT K H a vs ∧ Rq K H ds vs
  | .lst ds, v => ∃ a vs, v = .ref a ∧ SqL K H a vs ∧ Rq K H ds vs
  | _, _ => True
def Rq (K : PySem.W.Frag) (H : Hp) : List D → List V → Prop
  | [], vs => vs = []
  | d :: ds, vs => ∃ v r, vs = v :: r ∧ Re K H d v ∧ Rq K H ds r
end
mutual
theorem re_of : ∀ (d : D) (v : V), Rep B H μ d v → Re B.K H d v
  | .non, _, r => r
  | .bl _, _, r => r
  | .int _, _, r => r
  | .str _, _, r => r
  | .tup ds, _, r => by
    obtain ⟨p, vs, e, t, r⟩ := sqT_of r
    exact ⟨p, vs, e, t, res_of ds vs r⟩
  | .lst ds, _, r => by
    obtain ⟨p, vs, e, ⟨_, t⟩, r⟩ := r
    exact ⟨p, vs, e, SqL.of t, res_of ds vs r⟩
  | .ro _, _, _ => True.intro
  | .dct _ _, _, _ => True.intro
  | .loc _, _, _ => True.intro
theorem res_of : ∀ (ds : List D) (vs : List V), Reps B H μ ds vs → Rq B.K H ds vs
  | [], _, r => r
  | d :: ds, _, r => by
    obtain ⟨v, q, e, r1, r2⟩ := r
    exact ⟨v, q, e, re_of d v r1, res_of ds q r2⟩
end
theorem Rq.length {K : PySem.W.Frag} : ∀ {ds : List D} {vs : List V}, Rq K H ds vs → vs.length = ds.length
  | [], _, h => by cases h; rfl
  | d :: ds, _, h => by
    obtain ⟨v, r, rfl, _, h2⟩ := h
    rw [List.length_cons, List.length_cons, Rq.length h2]
theorem flat_re (S : StOk B H μ st) (r : Rep B H μ a x) : Re B.K H (flat1 st a) x := by
  cases a with
  | loc n =>
    obtain ⟨p, rfl, h⟩ := r
    obtain ⟨c, hc, k⟩ := S.at h
    unfold flat1
    simp only [hc]
    cases c with
    | lst ds =>
      obtain ⟨vs, h2, r⟩ := k
      exact ⟨p, vs, rfl, SqL.of h2, res_of ds vs r⟩
    | dct ks ds => exact True.intro
  | _ => exact re_of _ _ r
theorem newL_ok (S : StOk B H μ st) {vs : List V} (r : Reps B H μ xs vs) (W : Wd B H μ repD (newL m xs st) Q) : ∀ p, H p = none → Q (.ref p) (upd H p (.lst vs)) := by
  intro p hp
  unfold newL at W
  by_cases hm : m = true
  · rw [if_pos hm] at W
    obtain ⟨d, st', e, k⟩ := W
    cases e
    refine k _ _ (μ ++ [p]) (Later.newM hp) (S.newM hp ⟨vs, upd_same, Reps.mono (Later.newM hp) _ _ r⟩) ⟨p, rfl, ?_⟩
    rw [← S.len, List.getElem?_append_right (Nat.le_refl _), Nat.sub_self]; rfl
  · rw [if_neg hm] at W
    exact W.new S hp ⟨p, vs, rfl, ⟨S.fresh hp, upd_same⟩, Reps.mono (Later.new hp) _ _ r⟩
theorem tup_ok (S : StOk B H μ st) {vs : List V} (r : Reps B H μ xs vs) (W : Wd B H μ repD (.ok (.tup xs) st) Q) : ∀ p, H p = none → Q (.ref p) (upd H p (.tup vs)) := fun p hp =>
  W.new S hp ⟨p, vs, rfl, .inl ⟨S.fresh hp, .inl upd_same⟩, Reps.mono (Later.new hp) _ _ r⟩

/-! ### operators -/
def rAddX (K : PySem.W.Frag) : R2 := fun x y H Q => rI0 (fun i j => .int (i + j)) x y H Q ∨ (∃ i j, x = .str i ∧ y = .str j ∧ i.length + j.length ≤ sizeLine ∧ Q (.str (i ++ j)) H) ∨ rCatA K x y H Q ∨ rCat x y H Q
def rMulX (K : PySem.W.Frag) : R2 := fun x y H Q => rI CMul (fun i j => .int (i * j)) x y H Q ∨ rRepT K x y H Q ∨ rRep x y H Q ∨ rRep1 K x y H Q ∨ rRep0 K x y H Q ∨ rRepS x y H Q
theorem op_addX {X : Cx} : OpR X (binaryOp .Add) (rAddX X.K) := OpR.or op_add (OpR.or op_add_str (OpR.or op_catA op_cat))
theorem op_mulX {X : Cx} : OpR X (binaryOp .Mult) (rMulX X.K) := OpR.or op_mul (OpR.or op_repT (OpR.or op_rep (OpR.or op_rep1 (OpR.or op_rep0 op_repS))))
theorem add_ok (S : StOk B H μ st) (ra : Rep B H μ a x) (rb : Rep B H μ b y) (W : Wd B H μ repD (bop .add m a b st) Q) : rAddX B.K x y H Q := by
  have last : ∀ {xs ys : List D}, lstOf st a = some xs → lstOf st b = some ys → xs.length + ys.length ≤ LINE → Wd B H μ repD (newL m (xs ++ ys) st) Q → rAddX B.K x y H Q := by
    intro xs ys ha hb hl W
    obtain ⟨p, vs, rfl, h1, r1⟩ := lst_rep S ha ra
    obtain ⟨q, ws, rfl, h2, r2⟩ := lst_rep S hb rb
    refine .inr (.inr (.inr ⟨p, q, vs, ws, rfl, rfl, h1, h2, ?_, newL_ok S (Reps.app r1 r2) W⟩))
    rw [r1.length, r2.length, line_eq]; exact hl
  unfold bop at W
  split at W
  · cases ra; cases rb
    exact .inl ⟨_, _, rfl, rfl, W.here S rfl⟩
  · rename_i s t
    cases ra; cases rb
    simp only at W
    split at W
    · rename_i hl
      exact .inr (.inl ⟨_, _, rfl, rfl, by rw [len_s, len_s, line_eq]; exact hl, W.here S (by show _ = _; rw [app_s])⟩)
    · exact W.not.elim
  · simp only at W
    split at W
    · rename_i hl
      obtain ⟨p, vs, rfl, h1, r1⟩ := sqT_of ra
      obtain ⟨q, ws, rfl, h2, r2⟩ := sqT_of rb
      refine .inr (.inr (.inl ⟨p, q, vs, ws, rfl, rfl, h1, h2, by rw [r1.length, r2.length, line_eq]; exact hl, fun e => ?_, fun _ e => ?_, fun _ _ => tup_ok S (Reps.app r1 r2) W⟩))
      · subst e
        have e0 := r1.nil
        subst e0
        exact W.here S rb
      · subst e
        have e0 := r2.nil
        subst e0
        rw [List.append_nil] at W
        exact W.here S ra
    · exact W.not.elim
  · exact W.not.elim
  · exact W.not.elim
  · simp only at W
    exact W.not.elim
  · split at W
    · rename_i hx hy
      split at W
      · rename_i hl
        exact last hx hy hl W
      · exact W.not.elim
    · exact W.not.elim

theorem mul_ok (S : StOk B H μ st) (ra : Rep B H μ a x) (rb : Rep B H μ b y) (W : Wd B H μ repD (bop .mul m a b st) Q) : rMulX B.K x y H Q := by
  unfold bop at W
  split at W
  · rename_i i j
    cases ra; cases rb
    unfold bopI at W
    simp only at W
    split at W
    · rename_i hc
      exact .inl ⟨_, _, rfl, rfl, hc, W.here S rfl⟩
    · exact W.not.elim
  · exact W.not.elim
  · exact W.not.elim
  · simp only at W
    split at W
    · rename_i hl
      cases rb
      obtain ⟨p, vs, rfl, h1, r1⟩ := sqT_of ra
      have ne : vs ≠ [] := fun e => by
        subst e
        exact hl.1 r1.nil
      rename_i xs k
      by_cases c : 2 ≤ k
      · exact .inr (.inl ⟨p, _, vs, rfl, rfl, h1, ne, c, hl.2.2.1, by rw [r1.length]; exact hl.2.2.2, tup_ok S (r1.flat _) W⟩)
      by_cases c1 : k = 1
      · subst c1
        have e1 : (List.replicate (1 : Int).toNat xs).flatten = xs := by simp
        rw [e1] at W
        exact .inr (.inr (.inr (.inl ⟨p, vs, rfl, rfl, h1, W.here S ra⟩)))
      · have e0 : (List.replicate k.toNat xs).flatten = [] := by rw [show k.toNat = 0 by omega]; rfl
        rw [e0] at W
        exact .inr (.inr (.inr (.inr (.inl ⟨p, k, vs, rfl, rfl, h1, ne, hl.2.1, by omega, tup_ok S (show Reps B H μ [] [] from rfl) W⟩))))
    · exact W.not.elim
  · simp only at W
    split at W
    · rename_i s k hl
      cases ra; cases rb
      refine .inr (.inr (.inr (.inr (.inr ⟨_, k, rfl, rfl, hl.1, hl.2.1, by rw [len_s]; exact hl.2.2, W.here S ?_⟩))))
      show V.str (repS (Str.ofString s) k) = .str (Str.ofString (String.ofList (List.replicate k.toNat s.toList).flatten))
      congr 1
      apply of_tl
      show (repS (Str.ofString s) k).cps.toList = _
      unfold repS
      rw [cps_s]
      simp [List.map_flatten, List.map_replicate]
    · exact W.not.elim
  · cases rb
    split at W
    · rename_i hx
      split at W
      · rename_i hl
        obtain ⟨p, vs, rfl, h1, r1⟩ := lst_rep S hx ra
        refine .inr (.inr (.inl ⟨p, _, vs, rfl, rfl, h1, hl.2.1, hl.2.2, by rw [r1.length, line_eq]; exact hl.1, newL_ok S (r1.flat _) W⟩))
      · exact W.not.elim
    · exact W.not.elim
  · split at W
    · rename_i h _ _
      cases h
    · exact W.not.elim
/-- two ints -/
theorem int2 {o : Bo} (ho : o ≠ .add) (ho' : o ≠ .mul) (S : StOk B H μ st) (ra : Rep B H μ a x) (rb : Rep B H μ b y) (W : Wd B H μ repD (bop o m a b st) Q) :
    ∃ i j, x = .int i ∧ y = .int j ∧ ∃ k, bopI o i j = some k ∧ Q (.int k) H := by
  unfold bop at W
  split at W
  · cases ra; cases rb
    refine ⟨_, _, rfl, rfl, ?_⟩
    cases e : bopI o _ _ with
    | none => rw [e] at W; exact W.not.elim
    | some k => rw [e] at W; exact ⟨k, rfl, W.here S rfl⟩
  · split at W
    · exact absurd rfl ho
    · exact W.not.elim
  · split at W
    · exact absurd rfl ho
    · exact W.not.elim
  · split at W
    · exact absurd rfl ho'
    · exact W.not.elim
  · split at W
    · exact absurd rfl ho'
    · exact W.not.elim
  · split at W
    · exact absurd rfl ho'
    · exact W.not.elim
  · split at W
    · exact absurd rfl ho
    · exact W.not.elim
theorem sub_ok (S : StOk B H μ st) (ra : Rep B H μ a x) (rb : Rep B H μ b y) (W : Wd B H μ repD (bop .sub m a b st) Q) : rI0 (fun i j => .int (i - j)) x y H Q := by
  obtain ⟨i, j, h1, h2, k, e, q⟩ := int2 (by decide) (by decide) S ra rb W
  cases e
  exact ⟨i, j, h1, h2, q⟩
theorem div_ok (S : StOk B H μ st) (ra : Rep B H μ a x) (rb : Rep B H μ b y) (W : Wd B H μ repD (bop .div m a b st) Q) : rI CDiv (fun i j => .int (i / j)) x y H Q := by
  obtain ⟨i, j, h1, h2, k, e, q⟩ := int2 (by decide) (by decide) S ra rb W
  unfold bopI at e
  simp only at e
  split at e
  · rename_i hc
    cases e
    exact ⟨i, j, h1, h2, hc, q⟩
  · cases e
theorem mod_ok (S : StOk B H μ st) (ra : Rep B H μ a x) (rb : Rep B H μ b y) (W : Wd B H μ repD (bop .mod m a b st) Q) : rI (fun _ j => 0 < j) (fun i j => .int (i % j)) x y H Q := by
  obtain ⟨i, j, h1, h2, k, e, q⟩ := int2 (by decide) (by decide) S ra rb W
  unfold bopI at e
  simp only at e
  split at e
  · rename_i hc
    cases e
    exact ⟨i, j, h1, h2, hc, q⟩
  · cases e
theorem pow_ok (S : StOk B H μ st) (ra : Rep B H μ a x) (rb : Rep B H μ b y) (W : Wd B H μ repD (bop .pow m a b st) Q) : rI CPow (fun i j => .int (i ^ j.toNat)) x y H Q := by
  obtain ⟨i, j, h1, h2, k, e, q⟩ := int2 (by decide) (by decide) S ra rb W
  unfold bopI at e
  simp only at e
  split at e
  · rename_i hc
    cases e
    exact ⟨i, j, h1, h2, hc, q⟩
  · cases e
theorem shl_ok (S : StOk B H μ st) (ra : Rep B H μ a x) (rb : Rep B H μ b y) (W : Wd B H μ repD (bop .shl m a b st) Q) : rI CPow (fun i j => .int (i * 2 ^ j.toNat)) x y H Q := by
  obtain ⟨i, j, h1, h2, k, e, q⟩ := int2 (by decide) (by decide) S ra rb W
  unfold bopI at e
  simp only at e
  split at e
  · rename_i hc
    cases e
    exact ⟨i, j, h1, h2, hc, q⟩
  · cases e
theorem shr_ok (S : StOk B H μ st) (ra : Rep B H μ a x) (rb : Rep B H μ b y) (W : Wd B H μ repD (bop .shr m a b st) Q) : rI (fun _ j => 0 ≤ j) (fun i j => .int (i / 2 ^ j.toNat)) x y H Q := by
  obtain ⟨i, j, h1, h2, k, e, q⟩ := int2 (by decide) (by decide) S ra rb W
  unfold bopI at e
  simp only at e
  split at e
  · rename_i hc
    cases e
    exact ⟨i, j, h1, h2, hc, q⟩
  · cases e

/-! ### items, parts -/
theorem ixN_eq : @Rx.ixN = @L2.ixN := rfl
theorem atI_eq {α : Type} (xs : List α) (i : Int) : Rx.atI xs i = L2.atI xs i := rfl
theorem atI_rep {xs : List D} {vs : List V} {i : Int} (r : Reps B H μ xs vs) (e : Rx.atI xs i = some d) : ∃ v, L2.atI vs i = some v ∧ Rep B H μ d v := by
  unfold Rx.atI at e
  unfold L2.atI
  rw [r.length]
  show ∃ v, (Rx.ixN xs.length i).bind (fun j => vs[j]?) = some v ∧ _
  cases q : Rx.ixN xs.length i with
  | none => rw [q] at e; cases e
  | some j =>
    rw [q] at e
    obtain ⟨v, h1, h2⟩ := r.get e
    exact ⟨v, h1, h2⟩
theorem ix_ok (S : StOk B H μ st) (ra : Rep B H μ a x) (rb : Rep B H μ b y) (W : Wd B H μ repD (.of (ixV a b st) st) Q) : rIx B.K x y H Q := by
  have seq : ∀ {i : Int}, b = .int i → ∀ {d}, (seqOf st a).bind (fun xs => Rx.atI xs i) = some d → Wd B H μ repD (.ok d st) Q → rIx B.K x y H Q := by
    intro i hb d e W2
    subst hb
    cases rb
    cases q : seqOf st a with
    | none => rw [q] at e; cases e
    | some xs =>
      rw [q] at e
      obtain ⟨p, vs, rfl, h, r⟩ := seq_rep S q ra
      obtain ⟨v, h1, h2⟩ := atI_rep r e
      rcases h with h | h
      · exact .inl ⟨p, vs, i, v, rfl, rfl, h, h1, W2.here S h2⟩
      · exact .inr (.inl ⟨p, vs, i, v, rfl, rfl, h, h1, W2.here S h2⟩)
  unfold ixV at W
  split at W
  · rename_i s i
    cases ra; cases rb
    cases q : Rx.atI s.toList i with
    | none => rw [q] at W; exact W.not.elim
    | some c =>
      rw [q] at W
      simp only [Option.bind_some] at W
      split at W
      · rename_i hl
        refine .inr (.inr ⟨_, _, c.toNat, rfl, rfl, by rw [len_s, line_eq]; exact hl, ?_, W.here S (by show _ = _; rw [sign_s])⟩)
        rw [cps_s]
        unfold Rx.atI at q
        unfold L2.atI
        rw [List.length_map]
        show (Rx.ixN s.toList.length i).bind _ = _
        cases q2 : Rx.ixN s.toList.length i with
        | none => rw [q2] at q; cases q
        | some j =>
          rw [q2] at q
          simp only [Option.bind_some] at q ⊢
          rw [List.getElem?_map, q]; rfl
      · exact W.not.elim
  · rename_i i _
    cases q : (seqOf st a).bind (fun xs => Rx.atI xs i) with
    | none => rw [q] at W; exact W.not.elim
    | some d => rw [q] at W; exact seq rfl q W
  · exact W.not.elim
theorem sIx_eq : @Rx.sIx = @HT.sIx := rfl
theorem cut_rep {xs : List D} {vs : List V} {lo hi : Option Int} (r : Reps B H μ xs vs) : Reps B H μ (cut xs lo hi) (cutV vs lo hi) := by
  unfold cut cutV
  rw [r.length, ← sIx_eq]
  exact (r.drop _).take _

theorem list_of_len {α : Type} {xs : List α} {n : Nat} (h : xs.length ≤ n) : xs.take n = xs := List.take_of_length_le h
def rSlX (K : PySem.W.Frag) : V → Option Int → Option Int → Hp → VK → Prop := fun x lo hi H Q => rSlA K x lo hi H Q ∨ rSlL K x lo hi H Q ∨ rSlS x lo hi H Q
theorem sl_X {X : Cx} : SlR X (rSlX X.K) := SlR.or sl_tupA (SlR.or sl_list sl_str)
theorem cutS_s (s : String) (lo hi : Option Int) : cutS (Str.ofString s) lo hi = Str.ofString (String.ofList (cut s.toList lo hi)) := by
  apply ext_tl
  rw [tl_s, String.toList_ofList]
  show (((Str.ofString s).cps.toList.drop _).take _) = _
  rw [cps_s, len_s, ← String.length_toList]
  unfold cut
  rw [← sIx_eq, List.map_take, List.map_drop]
theorem sl_ok {lo hi : Option Int} (S : StOk B H μ st) (ra : Rep B H μ a x) (W : Wd B H μ repD (sliV m a lo hi st) Q) : rSlX B.K x lo hi H Q := by
  unfold sliV at W
  split at W
  · rename_i xs
    obtain ⟨p, vs, rfl, h, r⟩ := sqT_of ra
    refine .inl ⟨p, vs, rfl, h, fun hw => ?_, fun _ => ?_⟩
    · have e : cut xs lo hi = xs := by
        unfold cut
        rw [r.length] at hw
        rw [sIx_eq, hw.1, hw.2, List.drop_zero, Nat.sub_zero, List.take_length]
      rw [e] at W
      exact W.here S ra
    · exact tup_ok S (cut_rep r) W
  · rename_i s
    cases ra
    split at W
    · rename_i hl
      exact .inr (.inr ⟨_, rfl, by rw [len_s, line_eq]; exact hl, W.here S (by show _ = _; rw [cutS_s])⟩)
    · exact W.not.elim
  · split at W
    · rename_i xs q
      obtain ⟨p, vs, rfl, h, r⟩ := lro_rep S q ra
      exact .inr (.inl ⟨p, vs, rfl, h, newL_ok S (cut_rep r) W⟩)
    · exact W.not.elim
end
end Rx

set_option Elab.async false
set_option linter.all false
set_option maxRecDepth 100000
set_option maxHeartbeats 2000000
set_option autoImplicit false
namespace Rx
open PySem L2 TL PySem.SeqAt

/-! ### == and != of data -/
mutual
def toP : D → PyData
  | .non => .none
  | .bl b => .bool b
  | .int i => .int i
  | .str s => .str (Str.ofString s)
  | .tup xs => .tuple (toPs xs)
  | .lst xs => .list (toPs xs)
  | _ => .none
def toPs : List D → List PyData
  | [] => []
  | x :: xs => toP x :: toPs xs
end
theorem s_beq (s t : String) : (Str.ofString s == Str.ofString t) = (s == t) := by
  by_cases h : s = t
  · subst h; simp
  · have : Str.ofString s ≠ Str.ofString t := fun e => h (s_inj e)
    rw [beq_eq_false_iff_ne.mpr h, beq_eq_false_iff_ne.mpr this]
theorem strOk_s (s : String) : PyData.strOk (Str.ofString s) = true := by
  unfold PyData.strOk
  rw [← Array.all_toList, cps_s, List.all_eq_true]
  intro n hn
  obtain ⟨c, _, rfl⟩ := List.mem_map.mp hn
  have := c.valid
  simp only [decide_eq_true_eq]
  unfold UInt32.isValidChar Nat.isValidChar at this
  show c.val.toNat < _
  omega
mutual
theorem eq_toP : ∀ a b : D, a.rk < 1000 → b.rk < 1000 → D.eq a b = PyData.eqv (toP a) (toP b)
  | .tup xs, .tup ys, h, h' => by
    simp only [D.eq, toP, PyData.eqv]
    exact eqAll_toP xs ys (by simp only [D.rk] at h; omega) (by simp only [D.rk] at h'; omega)
  | .lst xs, .lst ys, h, h' => by
    simp only [D.eq, toP, PyData.eqv]
    exact eqAll_toP xs ys (by simp only [D.rk] at h; omega) (by simp only [D.rk] at h'; omega)
  | .str s, .str t, _, _ => by
    simp only [D.eq, toP, PyData.eqv]
    rw [s_beq]
  | .ro _, b, h, _ => by simp [D.rk] at h
  | .dct _ _, b, h, _ => by simp [D.rk] at h
  | .loc _, b, h, _ => by simp [D.rk] at h
  | .non, b, _, h => by cases b <;> first | rfl | (simp [D.rk] at h)
  | .bl _, b, _, h => by cases b <;> first | rfl | (simp [D.rk] at h)
  | .int _, b, _, h => by cases b <;> first | rfl | (simp [D.rk] at h)
  | .str _, .non, _, _ => rfl
  | .str _, .bl _, _, _ => rfl
  | .str _, .int _, _, _ => rfl
  | .str _, .tup _, _, _ => rfl
  | .str _, .lst _, _, _ => rfl
  | .str _, .ro _, _, h => by simp [D.rk] at h
  | .str _, .dct _ _, _, h => by simp [D.rk] at h
  | .str _, .loc _, _, h => by simp [D.rk] at h
  | .tup _, .non, _, _ => rfl
  | .tup _, .bl _, _, _ => rfl
  | .tup _, .int _, _, _ => rfl
  | .tup _, .str _, _, _ => rfl
  | .tup _, .lst _, _, _ => rfl
  | .tup _, .ro _, _, h => by simp [D.rk] at h
  | .tup _, .dct _ _, _, h => by simp [D.rk] at h
  | .tup _, .loc _, _, h => by simp [D.rk] at h
  | .lst _, .non, _, _ => rfl
  | .lst _, .bl _, _, _ => rfl
  | .lst _, .int _, _, _ => rfl
  | .lst _, .str _, _, _ => rfl
  | .lst _, .tup _, _, _ => rfl
  | .lst _, .ro _, _, h => by simp [D.rk] at h
  | .lst _, .dct _ _, _, h => by simp [D.rk] at h
  | .lst _, .loc _, _, h => by simp [D.rk] at h
theorem eqAll_toP : ∀ xs ys : List D, D.rkAll xs < 1000 → D.rkAll ys < 1000 → D.eqAll xs ys = PyData.eqvAll (toPs xs) (toPs ys)
  | [], [], _, _ => rfl
  | [], _ :: _, _, _ => rfl
  | _ :: _, [], _, _ => rfl
  | x :: xs, y :: ys, h, h' => by
    simp only [D.eqAll, toPs, PyData.eqvAll]
    simp only [D.rkAll] at h h'
    rw [eq_toP x y (by omega) (by omega), eqAll_toP xs ys (by omega) (by omega)]
end
mutual
theorem depth_toP : ∀ a : D, (toP a).depth ≤ a.rk
  | .non => Nat.le_refl _
  | .bl _ => Nat.le_refl _
  | .int _ => Nat.le_refl _
  | .str _ => Nat.le_refl _
  | .tup xs => by
    have := depth_toPs xs
    simp only [toP, PyData.depth, D.rk]
    omega
  | .lst xs => by
    have := depth_toPs xs
    simp only [toP, PyData.depth, D.rk]
    omega
  | .ro _ => Nat.zero_le _
  | .dct _ _ => Nat.zero_le _
  | .loc _ => Nat.zero_le _
theorem depth_toPs : ∀ xs : List D, PyData.depthAll (toPs xs) ≤ D.rkAll xs
  | [] => Nat.le_refl _
  | x :: xs => by
    have h1 := depth_toP x
    have h2 := depth_toPs xs
    simp only [toPs, PyData.depthAll, D.rkAll]
    omega
end
mutual
theorem lay_toP : ∀ a : D, (toP a).canLay0 = true
  | .non => rfl
  | .bl _ => rfl
  | .int _ => rfl
  | .str s => by simp only [toP, PyData.canLay0]; exact strOk_s s
  | .tup xs => by simp only [toP, PyData.canLay0]; exact lay_toPs xs
  | .lst xs => by simp only [toP, PyData.canLay0]; exact lay_toPs xs
  | .ro _ => rfl
  | .dct _ _ => rfl
  | .loc _ => rfl
theorem lay_toPs : ∀ xs : List D, PyData.canLayAll0 (toPs xs) = true
  | [] => rfl
  | x :: xs => by
    simp only [toPs, PyData.canLayAll0]
    rw [lay_toP x, lay_toPs xs]; rfl
end
section
variable {K : PySem.W.Frag} {H : Hp}
mutual
theorem dp_of : ∀ (a : D) (x : V), a.rk < 1000 → Re K H a x → Dp K H x (toP a)
  | .non, _, _, r => by cases r; exact .non
  | .bl b, _, _, r => by cases r; exact .bl b
  | .int i, _, _, r => by cases r; exact .int i
  | .str s, _, _, r => by cases r; exact .str _
  | .tup xs, _, h, r => by
    obtain ⟨p, vs, rfl, hs, r⟩ := r
    exact .tup hs (dps_of xs vs (by simp only [D.rk] at h; omega) r)
  | .lst xs, _, h, r => by
    obtain ⟨p, vs, rfl, hs, r⟩ := r
    exact .lst hs (dps_of xs vs (by simp only [D.rk] at h; omega) r)
  | .ro _, _, h, _ => by simp [D.rk] at h
  | .dct _ _, _, h, _ => by simp [D.rk] at h
  | .loc _, _, h, _ => by simp [D.rk] at h
theorem dps_of : ∀ (xs : List D) (vs : List V), D.rkAll xs < 1000 → Rq K H xs vs → DpAll K H vs (toPs xs)
  | [], _, _, r => by cases r; exact .nil
  | x :: xs, _, h, r => by
    obtain ⟨v, vs, rfl, r1, r2⟩ := r
    simp only [D.rkAll] at h
    exact .cons (dp_of x v (by omega) r1) (dps_of xs vs (by omega) r2)
end
end
/-- a value for ==: one of the six kinds -/
inductive Sh (h : Heap) : D → Value → Prop where
  | non : Sh h .non .none
  | bl (b : Bool) : Sh h (.bl b) (.bool b)
  | int (i : Int) (t : Tok) : Sh h (.int i) (.int i t)
  | str (s : String) (t : Tok) : Sh h (.str s) (.str (Str.ofString s) t)
  | tup {xs : List D} {a : Addr} {its : Array Value} (e : h.IsTuple a its) (n : its.size = xs.length) : Sh h (.tup xs) (.ref a)
  | lst {xs : List D} {a : Addr} {its : Array Value} (e : h.IsList a its) (n : its.size = xs.length) : Sh h (.lst xs) (.ref a)
theorem sh_of {X : Cx} {pins : List (Addr × Obj)} {σ : L2.St} {H : Hp} {s : Shared} {a : D} {x : V} {v : Value} (I : Inv X pins σ H s) (hc : cmpb a = true) (r : Re X.K H a x) (rv : RelV x v) : Sh s.heap a v := by
  cases a with
  | non => cases r; cases rv; exact .non
  | bl b => cases r; cases rv; exact .bl b
  | int i => cases r; obtain ⟨t, rfl⟩ := rv; exact .int i t
  | str i => cases r; obtain ⟨t, rfl⟩ := rv; exact .str i t
  | tup xs =>
    obtain ⟨p, vs, rfl, hs, r⟩ := r
    cases rv
    obtain ⟨its, r2, ⟨o, ho, hc, n, hd⟩, _⟩ := I.tuple hs
    exact .tup ⟨o, ho, hc, n, hd⟩ (by rw [List.size_toArray, ← r2.length, r.length])
  | lst xs =>
    obtain ⟨p, vs, rfl, hs, r⟩ := r
    cases rv
    obtain ⟨its, r2, ⟨o, n, ho, hc, _, hd⟩, _⟩ := I.list hs
    exact .lst ⟨o, ho, hc, n, hd⟩ (by rw [List.size_toArray, ← r2.length, r.length])
  | ro _ => cases hc
  | dct _ _ => cases hc
  | loc _ => cases hc

/-- eq where one of the two is a scalar or nothing -/
theorem eq_sh {A : Around} {s : Shared} {a b : D} {u v : Value} (hu : A.units + 200 < cLine) (ha : Sh s.heap a u) (hb : Sh s.heap b v) (hs : scal a = true ∨ scal b = true ∨ isNil b = true) : RcAt A s u v (D.eq a b) := by
  have h0 : A.units < cLine := by omega
  cases ha with
  | non =>
    cases hb with
    | non => exact RcAt.none_none
    | bl y => exact RcAt.none_bool y
    | int y t => exact RcAt.none_int y t
    | str y t => exact RcAt.none_str _ t
    | tup e n => exact RcAt.none_tuple e h0
    | lst e n => exact RcAt.none_list e h0
  | bl x =>
    cases hb with
    | non => exact RcAt.bool_none x
    | bl y => exact RcAt.bool_bool x y
    | int y t => exact RcAt.bool_int x y t
    | str y t => exact RcAt.bool_str x _ t
    | tup e n => exact RcAt.bool_tuple x e h0
    | lst e n => exact RcAt.bool_list x e h0
  | int x t' =>
    cases hb with
    | non => exact RcAt.int_none x t'
    | bl y => exact RcAt.int_bool x t' y
    | int y t => exact RcAt.int_int x t' y t
    | str y t => exact RcAt.int_str x t' _ t
    | tup e n => exact RcAt.int_tuple x t' e h0
    | lst e n => exact RcAt.int_list x t' e h0
  | str x t' =>
    cases hb with
    | non => exact RcAt.str_none _ t'
    | bl y => exact RcAt.str_bool _ t' y
    | int y t => exact RcAt.str_int _ t' y t
    | str y t =>
      have q := @RcAt.str_str A s (Str.ofString x) t' (Str.ofString y) t
      rw [s_beq] at q
      exact q
    | tup e n => exact RcAt.str_tuple _ t' e h0
    | lst e n => exact RcAt.str_list _ t' e h0
  | @tup xs p its e n =>
    cases hb with
    | non => exact RcAt.tuple_none e h0
    | bl y => exact RcAt.tuple_bool y e h0
    | int y t => exact RcAt.tuple_int y t e h0
    | str y t => exact RcAt.tuple_str _ t e h0
    | lst e' n' => exact RcAt.tuple_list e e' h0
    | @tup ys q its' e' n' =>
      have hy : ys = [] := by
        rcases hs with z | z | z
        · cases z
        · cases z
        · cases ys with
          | nil => rfl
          | cons _ _ => cases z
      subst hy
      have z : its'.size = 0 := n'
      have k := @RcAt.tuples A s p q its its' (fun _ => true) e e' h0 (fun j _ h2 => absurd h2 (by omega))
      have d : D.eq (.tup xs) (.tup []) = ((List.range (min its.size its'.size)).all (fun _ => true) && its.size == its'.size) := by
        rw [z, n, Nat.min_zero]
        cases xs <;> rfl
      rw [d]
      exact k
  | @lst xs p its e n =>
    cases hb with
    | non => exact RcAt.list_none e h0
    | bl y => exact RcAt.list_bool y e h0
    | int y t => exact RcAt.list_int y t e h0
    | str y t => exact RcAt.list_str _ t e h0
    | tup e' n' => exact RcAt.list_tuple e e' h0
    | @lst ys q its' e' n' =>
      have hy : ys = [] := by
        rcases hs with z | z | z
        · cases z
        · cases z
        · cases ys with
          | nil => rfl
          | cons _ _ => cases z
      subst hy
      have z : its'.size = 0 := n'
      by_cases hx : xs = []
      · subst hx
        have z2 : its.size = 0 := n
        have k := @RcAt.lists A s p q its its' (fun _ => true) e e' (by omega) h0 (fun j _ h2 => absurd h2 (by omega))
        rw [z2] at k
        exact k
      · have k := @RcAt.lists_lengths A s p q its its' e e' (by
          have : xs.length ≠ 0 := fun q => hx (List.length_eq_zero_iff.mp q)
          simp only [bne_iff_ne]; omega) h0
        have d : D.eq (.lst xs) (.lst []) = false := by
          cases xs with
          | nil => exact absurd rfl hx
          | cons _ _ => rfl
        rw [d]
        exact k
def rEqX (K : PySem.W.Frag) : R2 := fun x y H Q => ∃ (a b : D), Re K H a x ∧ Re K H b y ∧ okEq a b = true ∧ Q (.bl (D.eq a b)) H
theorem op_eqX {X : Cx} (hu : X.A.units + 200 < cLine) : OpR X (compareOp .Eq) (rEqX X.K) := by
  intro pins s σ H x y v u Q I rx ry h
  obtain ⟨a, b, ra, rb, ok, q⟩ := h
  have fin : RcAt X.A s v u (D.eq a b) → wpAny (model X.prog X.w) X.A (compareOp .Eq v u) (EP X pins σ Q) X.xe s := fun k => k X.prog X.w X.xe _ ⟨.bl _, H, I, rfl, q⟩
  unfold okEq at ok
  rw [Bool.or_eq_true, Bool.or_eq_true, Bool.or_eq_true] at ok
  rcases ok with ((ok | ok) | ok) | ok
  · rw [Bool.and_eq_true] at ok
    exact fin (eq_sh hu (sh_of I (by cases a <;> first | rfl | cases ok.1) ra rx) (sh_of I ok.2 rb ry) (.inl ok.1))
  · rw [Bool.and_eq_true] at ok
    exact fin (eq_sh hu (sh_of I ok.2 ra rx) (sh_of I (by cases b <;> first | rfl | cases ok.1) rb ry) (.inr (.inl ok.1)))
  · rw [Bool.and_eq_true] at ok
    exact fin (eq_sh hu (sh_of I ok.2 ra rx) (sh_of I (by cases b <;> first | rfl | cases ok.1) rb ry) (.inr (.inr ok.1)))
  · rw [Bool.and_eq_true, decide_eq_true_eq, decide_eq_true_eq] at ok
    have da := dp_of a x (by omega) ra
    have db := dp_of b y (by omega) rb
    obtain ⟨as, r1⟩ := Dp.reads I _ x v da rx
    obtain ⟨bs, r2⟩ := Dp.reads I _ y u db ry
    rw [eq_toP a b (by omega) (by omega)] at fin
    have d1 := depth_toP a
    exact fin (rcAt_reads r1 r2 (lay_toP a) (lay_toP b) (by omega))

/-- ne where one of the two is a scalar or nothing -/
theorem ne_sh {A : Around} {s : Shared} {a b : D} {u v : Value} (hu : A.units + 200 < cLine) (ha : Sh s.heap a u) (hb : Sh s.heap b v) (hs : scal a = true ∨ scal b = true ∨ isNil b = true) : RcNeAt A s u v (!(D.eq a b)) := by
  have h0 : A.units < cLine := by omega
  cases ha with
  | non =>
    cases hb with
    | non => exact RcNeAt.none_none
    | bl y => exact RcNeAt.none_bool y
    | int y t => exact RcNeAt.none_int y t
    | str y t => exact RcNeAt.none_str _ t
    | tup e n => exact RcNeAt.none_tuple e h0
    | lst e n => exact RcNeAt.none_list e h0
  | bl x =>
    cases hb with
    | non => exact RcNeAt.bool_none x
    | bl y => exact RcNeAt.bool_bool x y
    | int y t => exact RcNeAt.bool_int x y t
    | str y t => exact RcNeAt.bool_str x _ t
    | tup e n => exact RcNeAt.bool_tuple x e h0
    | lst e n => exact RcNeAt.bool_list x e h0
  | int x t' =>
    cases hb with
    | non => exact RcNeAt.int_none x t'
    | bl y => exact RcNeAt.int_bool x t' y
    | int y t => exact RcNeAt.int_int x t' y t
    | str y t => exact RcNeAt.int_str x t' _ t
    | tup e n => exact RcNeAt.int_tuple x t' e h0
    | lst e n => exact RcNeAt.int_list x t' e h0
  | str x t' =>
    cases hb with
    | non => exact RcNeAt.str_none _ t'
    | bl y => exact RcNeAt.str_bool _ t' y
    | int y t => exact RcNeAt.str_int _ t' y t
    | str y t =>
      have q := @RcNeAt.str_str A s (Str.ofString x) t' (Str.ofString y) t
      first | rw [s_beq] at q | (unfold bne at q; rw [s_beq] at q)
      exact q
    | tup e n => exact RcNeAt.str_tuple _ t' e h0
    | lst e n => exact RcNeAt.str_list _ t' e h0
  | @tup xs p its e n =>
    cases hb with
    | non => exact RcNeAt.tuple_none e h0
    | bl y => exact RcNeAt.tuple_bool y e h0
    | int y t => exact RcNeAt.tuple_int y t e h0
    | str y t => exact RcNeAt.tuple_str _ t e h0
    | lst e' n' => exact RcNeAt.tuple_list e e' h0
    | @tup ys q its' e' n' =>
      have hy : ys = [] := by
        rcases hs with z | z | z
        · cases z
        · cases z
        · cases ys with
          | nil => rfl
          | cons _ _ => cases z
      subst hy
      have z : its'.size = 0 := n'
      have k := @RcNeAt.tuples A s p q its its' (fun _ => true) e e' h0 (fun j _ h2 => absurd h2 (by omega))
      have d : D.eq (.tup xs) (.tup []) = ((List.range (min its.size its'.size)).all (fun _ => true) && its.size == its'.size) := by
        rw [z, n, Nat.min_zero]
        cases xs <;> rfl
      rw [d]
      exact k
  | @lst xs p its e n =>
    cases hb with
    | non => exact RcNeAt.list_none e h0
    | bl y => exact RcNeAt.list_bool y e h0
    | int y t => exact RcNeAt.list_int y t e h0
    | str y t => exact RcNeAt.list_str _ t e h0
    | tup e' n' => exact RcNeAt.list_tuple e e' h0
    | @lst ys q its' e' n' =>
      have hy : ys = [] := by
        rcases hs with z | z | z
        · cases z
        · cases z
        · cases ys with
          | nil => rfl
          | cons _ _ => cases z
      subst hy
      have z : its'.size = 0 := n'
      by_cases hx : xs = []
      · subst hx
        have z2 : its.size = 0 := n
        have k := @RcNeAt.lists A s p q its its' (fun _ => true) e e' (by omega) h0 (fun j _ h2 => absurd h2 (by omega))
        rw [z2] at k
        exact k
      · have k := @RcNeAt.lists_lengths A s p q its its' e e' (by
          have : xs.length ≠ 0 := fun q => hx (List.length_eq_zero_iff.mp q)
          simp only [bne_iff_ne]; omega) h0
        have d : D.eq (.lst xs) (.lst []) = false := by
          cases xs with
          | nil => exact absurd rfl hx
          | cons _ _ => rfl
        rw [d]
        exact k
def rNeX (K : PySem.W.Frag) : R2 := fun x y H Q => ∃ (a b : D), Re K H a x ∧ Re K H b y ∧ okEq a b = true ∧ Q (.bl (!(D.eq a b))) H
theorem op_neX {X : Cx} (hu : X.A.units + 200 < cLine) : OpR X (compareOp .NotEq) (rNeX X.K) := by
  intro pins s σ H x y v u Q I rx ry h
  obtain ⟨a, b, ra, rb, ok, q⟩ := h
  have fin : RcNeAt X.A s v u (!(D.eq a b)) → wpAny (model X.prog X.w) X.A (compareOp .NotEq v u) (EP X pins σ Q) X.xe s := fun k => k X.prog X.w X.xe _ ⟨.bl _, H, I, rfl, q⟩
  unfold okEq at ok
  rw [Bool.or_eq_true, Bool.or_eq_true, Bool.or_eq_true] at ok
  rcases ok with ((ok | ok) | ok) | ok
  · rw [Bool.and_eq_true] at ok
    exact fin (ne_sh hu (sh_of I (by cases a <;> first | rfl | cases ok.1) ra rx) (sh_of I ok.2 rb ry) (.inl ok.1))
  · rw [Bool.and_eq_true] at ok
    exact fin (ne_sh hu (sh_of I ok.2 ra rx) (sh_of I (by cases b <;> first | rfl | cases ok.1) rb ry) (.inr (.inl ok.1)))
  · rw [Bool.and_eq_true] at ok
    exact fin (ne_sh hu (sh_of I ok.2 ra rx) (sh_of I (by cases b <;> first | rfl | cases ok.1) rb ry) (.inr (.inr ok.1)))
  · rw [Bool.and_eq_true, decide_eq_true_eq, decide_eq_true_eq] at ok
    have da := dp_of a x (by omega) ra
    have db := dp_of b y (by omega) rb
    obtain ⟨as, r1⟩ := Dp.reads I _ x v da rx
    obtain ⟨bs, r2⟩ := Dp.reads I _ y u db ry
    rw [eq_toP a b (by omega) (by omega)] at fin
    have d1 := depth_toP a
    exact fin (rcNeAt_reads r1 r2 (lay_toP a) (lay_toP b) (by omega))
end Rx

set_option Elab.async false
set_option linter.all false
set_option maxRecDepth 100000
set_option maxHeartbeats 2000000
set_option autoImplicit false
namespace Rx
open PySem L2 TL

section
variable {B : Bg} {H : Hp} {μ : List Addr} {st : Store} {a b d : D} {x y : V} {Q : VK} {m : Bool} {xs ys : List D}
/-! ### comparisons -/
theorem Wd.of {o : Option D} {Q : VK} (W : Wd B H μ repD (Res.of o st) Q) : ∃ d, o = some d ∧ Wd B H μ repD (.ok d st) Q := by
  cases o with
  | none => exact W.not.elim
  | some d => exact ⟨d, rfl, W⟩
theorem Wd.ofB {o : Option Bool} {Q : VK} (S : StOk B H μ st) (W : Wd B H μ repD (Res.of (o.map D.bl) st) Q) : ∃ k, o = some k ∧ Q (.bl k) H := by
  cases o with
  | none => exact W.not.elim
  | some d => exact ⟨d, rfl, W.here S rfl⟩
theorem eq_ok {k : Bool} (S : StOk B H μ st) (ra : Rep B H μ a x) (rb : Rep B H μ b y) (e : cmpV .eq a b st = some k) (q : Q (.bl k) H) : rEqX B.K x y H Q := by
  unfold cmpV at e
  simp only at e
  split at e
  · rename_i h
    cases e
    exact ⟨_, _, flat_re S ra, flat_re S rb, h, q⟩
  · cases e
theorem ne_ok {k : Bool} (S : StOk B H μ st) (ra : Rep B H μ a x) (rb : Rep B H μ b y) (e : cmpV .ne a b st = some k) (q : Q (.bl k) H) : rNeX B.K x y H Q := by
  unfold cmpV at e
  simp only at e
  split at e
  · rename_i h
    cases e
    exact ⟨_, _, flat_re S ra, flat_re S rb, h, q⟩
  · cases e
theorem scal_flat (h : scal a = true) (r : Rep B H μ a x) : flatV x = true := by
  cases a <;> first | (cases h; done) | (cases r; rfl)
theorem eqV_eq (ha : scal a = true) (hb : scal b = true) (ra : Rep B H μ a x) (rb : Rep B H μ b y) : eqV x y = D.eq a b := by
  cases a <;> first | (cases ha; done) | (cases ra; cases b <;> first | (cases hb; done) | (cases rb; first | rfl | (simp only [eqV, D.eq]; exact s_beq _ _)))
theorem any_eqV (hx : scal a = true) (rx : Rep B H μ a x) : ∀ {xs : List D} {vs : List V}, xs.all scal = true → Reps B H μ xs vs → inV x vs = isIn a xs ∧ vs.all flatV = true
  | [], _, _, r => by cases r; exact ⟨rfl, rfl⟩
  | d :: ds, _, h, r => by
    obtain ⟨v, vs, rfl, r1, r2⟩ := r
    rw [List.all_cons, Bool.and_eq_true] at h
    obtain ⟨q1, q2⟩ := any_eqV hx rx h.2 r2
    refine ⟨?_, by rw [List.all_cons, scal_flat h.1 r1, q2]; rfl⟩
    unfold inV isIn at *
    rw [List.any_cons, List.any_cons, q1, eqV_eq h.1 hx r1 rx]
/-- x in, not in: a sign of a text, an item of a list or tuple, a key -/
def rSgn (neg : Bool) : R2 := fun x y H Q => ∃ (c : Nat) (z : Str), x = .str ⟨#[c]⟩ ∧ y = .str z ∧ Q (.bl (if neg then !decide (c ∈ z.cps.toList) else decide (c ∈ z.cps.toList))) H
def rKey (neg : Bool) : R2 := fun x y H Q => ∃ a o, y = .ref a ∧ DGet H a x o ∧ Q (.bl (if neg then !o.isSome else o.isSome)) H
def rInX (K : PySem.W.Frag) (neg : Bool) : R2 := fun x y H Q => rSgn neg x y H Q ∨ rIn K neg x y H Q ∨ rKey neg x y H Q
theorem op_inX {X : Cx} (hu : X.A.units + 200 < cLine) : OpR X (compareOp .In) (rInX X.K false) := by
  refine OpR.or op_in_sign (OpR.or op_in_seq ?_)
  intro pins s σ H x y v u Q I rx ry h
  obtain ⟨a, o, rfl, g, q⟩ := h
  cases ry
  exact d_in (by omega) I g rx fun s' I' => ⟨.bl _, H, I', rfl, q⟩
theorem op_notInX {X : Cx} (hu : X.A.units + 200 < cLine) : OpR X (compareOp .NotIn) (rInX X.K true) := by
  refine OpR.or op_notIn_sign (OpR.or op_notIn_seq ?_)
  intro pins s σ H x y v u Q I rx ry h
  obtain ⟨a, o, rfl, g, q⟩ := h
  cases ry
  exact d_notIn (by omega) I g rx fun s' I' => ⟨.bl _, H, I', rfl, q⟩
theorem mem_sign {c : Char} {t : String} : decide (c.toNat ∈ (Str.ofString t).cps.toList) = t.toList.contains c := by
  rw [cps_s]
  by_cases h : c ∈ t.toList
  · rw [List.contains_iff_mem.mpr h, decide_eq_true (List.mem_map.mpr ⟨c, h, rfl⟩)]
  · have : ¬ c.toNat ∈ t.toList.map Char.toNat := fun hm => by
      obtain ⟨c', h1, h2⟩ := List.mem_map.mp hm
      exact h (char_inj h2 ▸ h1)
    rw [decide_eq_false this]
    have h2 : ¬ t.toList.contains c = true := fun q => h (List.contains_iff_mem.mp q)
    simpa using h2
theorem kyOf_rep {k : Ky} (e : kyOf a = some k) (r : Rep B H μ a x) : x = kV (kyK k) := by
  cases a <;> simp only [kyOf] at e <;> first | (cases e; done) | (cases e; cases r; rfl)
theorem kyK_inj {j k : Ky} (h : kyK j = kyK k) : j = k := by
  cases j <;> cases k
  · cases h; rfl
  · cases h
  · cases h
  · rename_i x y
    have h' : Str.ofString x = Str.ofString y := Sum.inr.inj h
    rw [s_inj h']
/-- what a dict holds at a key -/
theorem look_rep {k : Ky} : ∀ {ks : List Ky} {vs : List D} {kvs : List (Key × V)}, kvs.map Prod.fst = ks.map kyK → Reps B H μ vs (kvs.map Prod.snd) →
    (lookK ks vs k = none ∧ valV kvs (kyK k) = none) ∨ ∃ d v, lookK ks vs k = some d ∧ valV kvs (kyK k) = some v ∧ Rep B H μ d v
  | [], vs, [], _, _ => .inl ⟨rfl, rfl⟩
  | [], _, _ :: _, h, _ => by cases h
  | _ :: _, _, [], h, _ => by cases h
  | k' :: ks, [], p :: kvs, h, r => by cases r
  | k' :: ks, d :: ds, p :: kvs, h, r => by
    rw [List.map_cons, List.map_cons] at h
    injection h with h1 h2
    rw [List.map_cons] at r
    obtain ⟨v, vs, e, r1, r2⟩ := r
    injection e with e1 e2
    subst e1 e2
    by_cases hk : k' = k
    · subst hk
      exact .inr ⟨d, p.2, by simp [lookK], valV_pos h1, r1⟩
    · have q : ¬ p.1 = kyK k := fun z => hk (kyK_inj (h1.symm.trans z))
      have q2 : lookK (k' :: ks) (d :: ds) k = lookK ks ds k := by simp [lookK, hk]
      rw [q2, valV_neg q]
      exact look_rep h2 r2
theorem dct_rep {ks : List Ky} {vs : List D} (S : StOk B H μ st) (e : dctOf st a = some (ks, vs)) (r : Rep B H μ a x) : ∃ p kvs, x = .ref p ∧ H p = some (.dK kvs) ∧ kvs.map Prod.fst = ks.map kyK ∧ Reps B H μ vs (kvs.map Prod.snd) := by
  cases a <;> simp only [dctOf] at e <;> try (cases e; done)
  · cases e
    obtain ⟨p, kvs, rfl, ⟨_, h⟩, hk, r⟩ := r
    exact ⟨p, kvs, rfl, h, hk, r⟩
  · obtain ⟨p, rfl, h⟩ := r
    split at e
    · rename_i q
      cases e
      obtain ⟨a, h', c⟩ := S.of q
      rw [h] at h'; cases h'
      obtain ⟨kvs, h2, hk, r⟩ := c
      exact ⟨p, kvs, rfl, h2, hk, r⟩
    · cases e
theorem inn_ok {neg k : Bool} (S : StOk B H μ st) (ra : Rep B H μ a x) (rb : Rep B H μ b y) (e : cmpV (if neg then .notin else .isin) a b st = some k) (q : Q (.bl k) H) : rInX B.K neg x y H Q := by
  have e' : inB a b st = some (if neg then !k else k) := by
    cases neg
    · exact e
    · have e : (inB a b st).map (!·) = some k := e
      cases z : inB a b st with
      | none => rw [z] at e; cases e
      | some j => rw [z] at e; cases e; simp
  have q' : ∀ j, (if neg then !k else k) = j → Q (.bl (if neg then !j else j)) H := by
    intro j hj
    subst hj
    cases neg
    · exact q
    · simpa using q
  unfold inB at e'
  split at e'
  · rename_i t
    split at e'
    · rename_i s
      cases ra; cases rb
      split at e'
      · rename_i c hc
        have z : s = String.ofList [c] := by rw [← hc, String.ofList_toList]
        subst z
        refine .inl ⟨c.toNat, _, by rw [← sign_s], rfl, ?_⟩
        rw [mem_sign]
        exact q' _ (Option.some.inj e').symm
      · cases e'
    · cases e'
  · split at e'
    · rename_i xs hx
      split at e'
      · rename_i hs
        rw [Bool.and_eq_true] at hs
        obtain ⟨p, vs, rfl, h, r⟩ := seq_rep S hx rb
        obtain ⟨q1, q2⟩ := any_eqV hs.1 ra hs.2 r
        refine .inr (.inl ⟨p, vs, rfl, h, scal_flat hs.1 ra, q2, ?_⟩)
        rw [q1]
        exact q' _ (Option.some.inj e').symm
      · cases e'
    · split at e'
      · rename_i ks vs j h1 h2
        obtain ⟨p, kvs, rfl, h, hk, r⟩ := dct_rep S h1 rb
        have ex := kyOf_rep h2 ra
        subst ex
        refine .inr (.inr ⟨p, _, rfl, DGet.k h, ?_⟩)
        rcases look_rep (k := j) hk r with ⟨l1, l2⟩ | ⟨d, v, l1, l2, _⟩
        · rw [l2]; rw [l1] at e'; exact q' _ (Option.some.inj e').symm
        · rw [l2]; rw [l1] at e'; exact q' _ (Option.some.inj e').symm
      · cases e'
def rIsX (neg : Bool) : R2 := fun x y H Q => (y = .non ∧ Q (.bl (if neg then !decide (x = .non) else decide (x = .non))) H) ∨ (∃ a b : Bool, x = .bl a ∧ y = .bl b ∧ Q (.bl (if neg then !decide (a = b) else decide (a = b))) H)
theorem op_isX {X : Cx} : OpR X (compareOp .Is) (rIsX false) := OpR.or op_isN op_isBl
theorem op_isNotX {X : Cx} : OpR X (compareOp .IsNot) (rIsX true) := OpR.or op_notN op_notBl
theorem is_ok {neg k : Bool} (ra : Rep B H μ a x) (rb : Rep B H μ b y) (e : cmpV (if neg then .isnot else .is) a b st = some k) (q : Q (.bl k) H) : rIsX neg x y H Q := by
  have e' : isB a b = some (if neg then !k else k) := by
    cases neg
    · exact e
    · have e : (isB a b).map (!·) = some k := e
      cases z : isB a b with
      | none => rw [z] at e; cases e
      | some j => rw [z] at e; cases e; simp
  have q' : ∀ j, (if neg then !k else k) = j → Q (.bl (if neg then !j else j)) H := by
    intro j hj
    subst hj
    cases neg
    · exact q
    · simpa using q
  unfold isB at e'
  split at e'
  · cases ra; cases rb
    rename_i p r
    refine .inr ⟨p, r, rfl, rfl, ?_⟩
    have z : decide (p = r) = (p == r) := by cases p <;> cases r <;> rfl
    rw [z]
    exact q' _ (Option.some.inj e').symm
  · cases ra; cases rb
    exact .inl ⟨rfl, q' true (Option.some.inj e').symm⟩
  · cases rb
    refine .inl ⟨rfl, ?_⟩
    have z : decide (x = V.non) = false := by
      apply decide_eq_false
      rintro rfl
      cases a <;> first
        | (cases ra; done)
        | (rename_i h; exact h rfl)
        | (obtain ⟨_, _, h, _⟩ := ra; cases h; done)
        | (obtain ⟨_, h, _⟩ := ra; cases h; done)
    rw [z]
    exact q' false (Option.some.inj e').symm
  · cases e'
theorem ord_ok {o : Co} {k : Bool} (ho : o = .lt ∨ o = .le ∨ o = .gt ∨ o = .ge) (ra : Rep B H μ a x) (rb : Rep B H μ b y) (e : cmpV o a b st = some k) : ∃ i j, x = .int i ∧ y = .int j ∧ cmpI o i j = some k := by
  have e' : ordB o a b = some k := by
    rcases ho with rfl | rfl | rfl | rfl <;> exact e
  unfold ordB at e'
  split at e'
  · cases ra; cases rb
    exact ⟨_, _, rfl, rfl, e'⟩
  · cases e'

/-! ### isinstance -/
def tyS : Ty → String
  | .int => "int" | .bool => "bool" | .str => "str" | .tuple => "tuple" | .list => "list" | .dict => "dict"
/-- the type's name of a thing -/
def tyD (st : Store) : D → Option String
  | .non => some "NoneType"
  | .bl _ => some "bool"
  | .int _ => some "int"
  | .str _ => some "str"
  | .tup _ => some "tuple"
  | .lst _ => some "list"
  | .ro _ => some "list"
  | .dct _ _ => some "dict"
  | .loc n => match st[n]? with
    | some (.lst _) => some "list"
    | some (.dct _ _) => some "dict"
    | none => none
theorem tyX_of {s : String} (S : StOk B H μ st) (e : tyD st a = some s) (r : Rep B H μ a x) : TyX B.K H x (.type s) := by
  cases a with
  | non => cases r; cases e; exact .base .non
  | bl b => cases r; cases e; exact .base (.bl b)
  | int i => cases r; cases e; exact .base (.int i)
  | str i => cases r; cases e; exact .base (.str _)
  | tup xs =>
    cases e
    obtain ⟨p, vs, rfl, t, _⟩ := r
    rcases t with ⟨_, t | ⟨o, t⟩⟩ | ⟨o, its, n, h1, h2, _⟩
    · exact .base (.tup t)
    · exact .fTuple t
    · exact .kTuple h1 h2
  | lst xs =>
    cases e
    obtain ⟨p, vs, rfl, ⟨_, t⟩, _⟩ := r
    exact .base (.lst t)
  | ro xs =>
    cases e
    obtain ⟨p, vs, rfl, t, _⟩ := r
    rcases t with ⟨_, t | ⟨o, t⟩⟩ | ⟨o, its, n, h1, h2, _⟩
    · exact .base (.lst t)
    · exact .base (.frz t)
    · exact .kList h1 h2
  | dct ks vs =>
    cases e
    obtain ⟨p, kvs, rfl, ⟨_, t⟩, _⟩ := r
    exact .base (.dK t)
  | loc n =>
    obtain ⟨p, rfl, h⟩ := r
    obtain ⟨c, hc, k⟩ := S.at h
    simp only [tyD, hc] at e
    cases c with
    | lst ds =>
      cases e
      obtain ⟨vs, t, _⟩ := k
      exact .base (.lst t)
    | dct ks vs =>
      cases e
      obtain ⟨vs, t, _⟩ := k
      exact .base (.dK t)
def tyAns (t : Ty) (s : String) : Bool := match t with
  | .int => s == "int" || s == "bool"
  | t => s == tyS t
theorem kit_all : ∀ (t : Ty) (s : String), s ∈ ["NoneType", "bool", "int", "str", "tuple", "list", "dict"] → kitB s (tyS t) = some (tyAns t s) := by
  intro t s hs
  simp only [List.mem_cons, List.mem_nil_iff, or_false] at hs
  rcases hs with rfl | rfl | rfl | rfl | rfl | rfl | rfl <;> cases t <;> decide +kernel
theorem isi_ok {t : Ty} {k : Bool} (S : StOk B H μ st) (e : isTy st a t = some k) (r : Rep B H μ a x) (q : Q (.bl k) H) : rIsi B.K [x, .ty (tyS t)] H Q := by
  have main : ∃ s, tyD st a = some s ∧ s ∈ ["NoneType", "bool", "int", "str", "tuple", "list", "dict"] ∧ k = tyAns t s := by
    cases a with
    | loc n =>
      obtain ⟨p, rfl, h⟩ := r
      obtain ⟨c, hc, k⟩ := S.at h
      simp only [tyD, hc]
      cases c <;> cases t <;> simp only [isTy, hc, Option.map_some] at e <;> cases e <;> exact ⟨_, rfl, by decide, by decide +kernel⟩
    | _ => cases t <;> simp only [isTy] at e <;> cases e <;> exact ⟨_, rfl, by decide, by decide +kernel⟩
  obtain ⟨s, h1, h2, rfl⟩ := main
  exact ⟨x, _, .type s, .type (tyS t), _, rfl, .ty _, tyX_of S h1 r, kit_ty (kit_all t s h2), q⟩
end
end Rx

set_option Elab.async false
set_option linter.all false
set_option maxRecDepth 100000
set_option maxHeartbeats 2000000
set_option autoImplicit false
namespace Rx
open PySem L2 TL

section
variable {B : Bg} {H : Hp} {μ : List Addr} {st : Store} {a b d : D} {x y : V} {Q : VK} {m : Bool} {xs ys : List D} {vs : List V}
theorem ints_rep : ∀ {xs : List D} {l : List Int} {vs : List V}, intsD xs = some l → Reps B H μ xs vs → vs = l.map V.int
  | [], l, vs, e, r => by cases e; cases r; rfl
  | d :: ds, l, vs, e, r => by
    obtain ⟨v, vs, rfl, r1, r2⟩ := r
    cases d <;> simp only [intsD] at e <;> try (cases e; done)
    rename_i i
    cases q : intsD ds with
    | none => rw [q] at e; cases e
    | some l' =>
      rw [q] at e; cases e
      cases r1
      rw [List.map_cons, ints_rep q r2]
theorem bls_rep : ∀ {xs : List D} {l : List Bool} {vs : List V}, blsD xs = some l → Reps B H μ xs vs → vs = l.map V.bl
  | [], l, vs, e, r => by cases e; cases r; rfl
  | d :: ds, l, vs, e, r => by
    obtain ⟨v, vs, rfl, r1, r2⟩ := r
    cases d <;> simp only [blsD] at e <;> try (cases e; done)
    rename_i i
    cases q : blsD ds with
    | none => rw [q] at e; cases e
    | some l' =>
      rw [q] at e; cases e
      cases r1
      rw [List.map_cons, bls_rep q r2]
theorem strs_rep : ∀ {xs : List D} {l : List String} {vs : List V}, strsD xs = some l → Reps B H μ xs vs → vs = (l.map Str.ofString).map V.str
  | [], l, vs, e, r => by cases e; cases r; rfl
  | d :: ds, l, vs, e, r => by
    obtain ⟨v, vs, rfl, r1, r2⟩ := r
    cases d <;> simp only [strsD] at e <;> try (cases e; done)
    rename_i i
    cases q : strsD ds with
    | none => rw [q] at e; cases e
    | some l' =>
      rw [q] at e; cases e
      cases r1
      rw [List.map_cons, List.map_cons, strs_rep q r2]
theorem lst_seq (S : StOk B H μ st) {l : List D} (e : lstOf st a = some l) (r : Rep B H μ a x) : ∃ p vs, x = .ref p ∧ SqL B.K H p vs ∧ Reps B H μ l vs := by
  obtain ⟨p, vs, h1, h2, h3⟩ := lst_rep S e r
  exact ⟨p, vs, h1, SqL.of h2, h3⟩
/-! ### built-ins -/
def biS : Bi → Bool × String
  | .len => (true, "len") | .max => (true, "max") | .min => (true, "min") | .sum => (true, "sum") | .all => (true, "all") | .any => (true, "any")
  | .int => (false, "int") | .tuple => (false, "tuple") | .list => (false, "list")
def biF (b : Bi) : Value := if (biS b).1 then .builtin (biS b).2 else .type (biS b).2
def rLen (K : PySem.W.Frag) : List V → Hp → VK → Prop := fun xs H Q => (∃ x n, xs = [x] ∧ LenV K x H n ∧ Q (.int n) H) ∨ ∃ (a : Addr) (kvs : List (Key × V)), xs = [.ref a] ∧ H a = some (.dK kvs) ∧ Q (.int kvs.length) H
def rBi (K : PySem.W.Frag) : Bi → List V → Hp → VK → Prop
  | .len => rLen K
  | .max => fun xs H Q => ∃ i j, xs = [.int i, .int j] ∧ Q (.int (if j > i then j else i)) H
  | .min => fun xs H Q => ∃ i j, xs = [.int i, .int j] ∧ Q (.int (if j < i then j else i)) H
  | .sum => rSum K
  | .all => rAll K
  | .any => rAny K
  | .int => fun xs H Q => (∃ i, xs = [.int i] ∧ Q (.int i) H) ∨ ∃ k, xs = [.bl k] ∧ Q (.int (if k then 1 else 0)) H
  | .tuple => fun xs H Q => ∃ p ys, xs = [.ref p] ∧ ((SqL K H p ys ∧ ∀ l, H l = none → Q (.ref l) (upd H l (.tup ys))) ∨ (SqT K H p ys ∧ Q (.ref p) H))
  | .list => fun xs H Q => ∃ p ys, xs = [.ref p] ∧ (SqL K H p ys ∨ SqT K H p ys) ∧ ∀ l, H l = none → Q (.ref l) (upd H l (.lst ys))
theorem call_bi {X : Cx} (hc : X.calm = true) (b : Bi) : CallR X (biF b) (rBi X.K b) := by
  cases b with
  | len =>
    refine CallR.or call_len ?_
    intro pins s σ H xs us Q I r h
    obtain ⟨a, kvs, rfl, e, q⟩ := h
    cases r with
    | cons r1 r2 =>
      cases r1; cases r2
      exact d_len I (.inl e) fun t s' I' => ⟨.int _, H, I', ⟨_, rfl⟩, q⟩
  | max => exact call_max2 hc
  | min => exact call_min2 hc
  | sum => exact cr_sum hc
  | all => exact cr_all hc
  | any => exact cr_any hc
  | int => exact call_int1
  | tuple => exact call_tuple_of
  | list => exact call_list_of
theorem bi_ok {f : Bi} {ds : List D} (S : StOk B H μ st) (r : Reps B H μ ds vs) (W : Wd B H μ repD (biV f m ds st) Q) : rBi B.K f vs H Q := by
  have one : ∀ {d : D}, ds = [d] → ∃ v, vs = [v] ∧ Rep B H μ d v := by
    rintro d rfl
    obtain ⟨v, vs, rfl, r1, r2⟩ := r
    cases r2
    exact ⟨v, rfl, r1⟩
  unfold biV at W
  split at W
  · obtain ⟨v, rfl, r1⟩ := one rfl
    cases r1
    split at W
    · rename_i hl
      refine .inl ⟨_, _, rfl, ⟨by rw [len_s, line_eq]; exact hl, rfl⟩, ?_⟩
      rw [len_s]
      exact W.here S rfl
    · exact W.not.elim
  · obtain ⟨v, rfl, r1⟩ := one rfl
    split at W
    · rename_i l _ q
      obtain ⟨p, vs, rfl, h, r2⟩ := seq_rep S q r1
      refine .inl ⟨_, vs.length, rfl, ?_, ?_⟩
      · rcases h with h | h
        · exact .inl ⟨vs, h, rfl⟩
        · exact .inr ⟨vs, h, rfl⟩
      · rw [r2.length]; exact W.here S rfl
    · rename_i ks vs _ q
      obtain ⟨p, kvs, rfl, h, hk, _⟩ := dct_rep S q r1
      refine .inr ⟨p, kvs, rfl, h, ?_⟩
      have e := congrArg List.length hk
      rw [List.length_map, List.length_map] at e
      rw [e]; exact W.here S rfl
    · exact W.not.elim
  · obtain ⟨v, vs, rfl, r1, r2⟩ := r
    obtain ⟨w, ws, rfl, r2, r3⟩ := r2
    cases r1; cases r2; cases r3
    exact ⟨_, _, rfl, W.here S rfl⟩
  · obtain ⟨v, vs, rfl, r1, r2⟩ := r
    obtain ⟨w, ws, rfl, r2, r3⟩ := r2
    cases r1; cases r2; cases r3
    exact ⟨_, _, rfl, W.here S rfl⟩
  · obtain ⟨v, rfl, r1⟩ := one rfl
    obtain ⟨d, e0, W⟩ := W.of
    obtain ⟨l, e, rfl⟩ := Option.map_eq_some_iff.mp e0
    obtain ⟨zs, e1, e2⟩ := Option.bind_eq_some_iff.mp e
    obtain ⟨p, vs, rfl, h, r2⟩ := lst_seq S e1 r1
    have := ints_rep e2 r2
    subst this
    exact ⟨p, l, rfl, h, W.here S rfl⟩
  · obtain ⟨v, rfl, r1⟩ := one rfl
    obtain ⟨d, e0, W⟩ := W.of
    obtain ⟨l, e, rfl⟩ := Option.map_eq_some_iff.mp e0
    obtain ⟨zs, e1, e2⟩ := Option.bind_eq_some_iff.mp e
    obtain ⟨p, vs, rfl, h, r2⟩ := lst_seq S e1 r1
    have := bls_rep e2 r2
    subst this
    exact ⟨p, l, rfl, h, W.here S rfl⟩
  · obtain ⟨v, rfl, r1⟩ := one rfl
    obtain ⟨d, e0, W⟩ := W.of
    obtain ⟨l, e, rfl⟩ := Option.map_eq_some_iff.mp e0
    obtain ⟨zs, e1, e2⟩ := Option.bind_eq_some_iff.mp e
    obtain ⟨p, vs, rfl, h, r2⟩ := lst_seq S e1 r1
    have := bls_rep e2 r2
    subst this
    exact ⟨p, l, rfl, h, W.here S rfl⟩
  · obtain ⟨v, rfl, r1⟩ := one rfl
    cases r1
    exact .inl ⟨_, rfl, W.here S rfl⟩
  · obtain ⟨v, rfl, r1⟩ := one rfl
    cases r1
    exact .inr ⟨_, rfl, W.here S rfl⟩
  · obtain ⟨v, rfl, r1⟩ := one rfl
    obtain ⟨p, vs, rfl, t, r2⟩ := sqT_of r1
    exact ⟨p, vs, rfl, .inr ⟨t, W.here S r1⟩⟩
  · obtain ⟨v, rfl, r1⟩ := one rfl
    obtain ⟨d, e0, W⟩ := W.of
    obtain ⟨l, e, rfl⟩ := Option.map_eq_some_iff.mp e0
    obtain ⟨p, vs, rfl, h, r2⟩ := lro_rep S e r1
    exact ⟨p, vs, rfl, .inl ⟨h, tup_ok S r2 W⟩⟩
  · obtain ⟨v, rfl, r1⟩ := one rfl
    split at W
    · rename_i l q
      obtain ⟨p, vs, rfl, h, r2⟩ := seq_rep S q r1
      exact ⟨p, vs, rfl, h, newL_ok S r2 W⟩
    · exact W.not.elim
  · exact W.not.elim

/-! ### methods of texts -/
theorem par_cut (c : Char) : ∀ (l acc : List Char), par [c.toNat] (acc.map Char.toNat) (l.map Char.toNat) = (cutAt c l).map fun p => ((acc ++ p.1).map Char.toNat, p.2.map Char.toNat)
  | [], acc => rfl
  | x :: r, acc => by
    by_cases h : x = c
    · subst h
      rw [List.map_cons, par_hit (by simp [pre])]
      simp [cutAt]
    · have hp : pre [c.toNat] (x.toNat :: r.map Char.toNat) = false := pre_of_head [] _ (fun e => h (char_inj e))
      have ih := par_cut c r (acc ++ [x])
      rw [List.map_append, List.map_cons, List.map_nil] at ih
      rw [List.map_cons, par_miss hp, ih]
      simp only [cutAt, if_neg h, Option.map_map]
      congr 1
      funext p
      simp
theorem splitC_ne (c : Char) : ∀ l : List Char, splitC c l ≠ []
  | [] => by simp [splitC]
  | x :: r => by
    unfold splitC
    split
    · simp
    · split <;> simp
theorem spl_split (c : Char) : ∀ (l acc : List Char), spl [c.toNat] 0 (acc.map Char.toNat) (l.map Char.toNat) = (match splitC c l with
    | [] => []
    | p :: ps => ((acc ++ p) :: ps)).map (List.map Char.toNat)
  | [], acc => by simp [splitC, spl_nil]
  | x :: r, acc => by
    by_cases h : x = c
    · subst h
      have ih : spl [x.toNat] 0 [] (r.map Char.toNat) = _ := spl_split x r []
      rw [List.map_cons, spl_hit (by simp [pre])]
      show _ :: spl [x.toNat] 0 [] (r.map Char.toNat) = _
      rw [ih]
      simp only [splitC, if_true]
      cases splitC x r <;> simp
    · have hp : pre [c.toNat] (x.toNat :: r.map Char.toNat) = false := pre_of_head [] _ (fun e => h (char_inj e))
      have ih := spl_split c r (acc ++ [x])
      rw [List.map_append, List.map_cons, List.map_nil] at ih
      rw [List.map_cons, spl_miss hp, ih]
      simp only [splitC, if_neg h]
      cases hz : splitC c r with
      | nil => exact absurd (by assumption) (splitC_ne c r)
      | cons p ps => simp

theorem part_s (s : String) (c : Char) : Txt.partition (Str.ofString s) (Str.ofString (String.ofList [c])) = match cutAt c s.toList with
    | some (a, b) => (Str.ofString (String.ofList a), Str.ofString (String.ofList [c]), Str.ofString (String.ofList b))
    | none => (Str.ofString s, Str.empty, Str.empty) := by
  have e : tl (Str.ofString (String.ofList [c])) = [c.toNat] := by rw [tl_s, String.toList_ofList]; rfl
  have h := par_cut c s.toList []
  rw [partition_par _ _ (by rw [e]; simp), e, tl_s]
  rw [show par [c.toNat] [] (s.toList.map Char.toNat) = _ from h]
  cases cutAt c s.toList with
  | none => rfl
  | some p =>
    obtain ⟨a, b⟩ := p
    simp only [Option.map_some, List.nil_append]
    have f : ∀ l : List Char, (⟨(l.map Char.toNat).toArray⟩ : Str) = Str.ofString (String.ofList l) := fun l => of_tl rfl
    rw [f a, f b]
theorem split_s (s : String) (c : Char) (hc : c.toNat < 256) : Txt.split (Str.ofString s) (Str.ofString (String.ofList [c])) = (splitC c s.toList).map fun l => Str.ofString (String.ofList l) := by
  have e : tl (Str.ofString (String.ofList [c])) = [c.toNat] := by rw [tl_s, String.toList_ofList]; rfl
  apply map_tl_inj
  rw [split_spl _ _ (by rw [e]; simp) (kind_ok (by rw [← Array.all_toList]; show (tl _).all _ = true; rw [e]; simpa using hc)), e, tl_s]
  rw [show spl [c.toNat] 0 [] (s.toList.map Char.toNat) = _ from spl_split c s.toList []]
  rw [List.map_map]
  cases hz : splitC c s.toList with
  | nil => rfl
  | cons p ps =>
    simp only [List.nil_append]
    apply List.map_congr_left
    intro l _
    show l.map Char.toNat = tl (Str.ofString (String.ofList l))
    rw [tl_s, String.toList_ofList]
theorem join_s (s : String) : ∀ l : List String, Txt.join (Str.ofString s) (l.map Str.ofString) = Str.ofString (joinS s l) := by
  intro l
  rw [join_eq]
  induction l with
  | nil => rfl
  | cons x r ih =>
    cases r with
    | nil => rfl
    | cons z r =>
      show Str.ofString x ++ Str.ofString s ++ Str.join (Str.ofString s) ((z :: r).map Str.ofString) = Str.ofString (x ++ s ++ joinS s (z :: r))
      rw [ih, app_s, app_s]
theorem count_s (s : String) (c : Char) : Txt.count (Str.ofString s) (Str.ofString (String.ofList [c])) = (s.toList.count c : Nat) := by
  rw [← sign_s, PyProof.Rows.count_cnt, cps_s]
  induction s.toList with
  | nil => rfl
  | cons x r ih =>
    rw [List.map_cons, PyProof.Rows.cnt_cons, ih, List.count_cons]
    by_cases h : x = c
    · subst h; simp; omega
    · have : ¬ x.toNat = c.toNat := fun e => h (char_inj e)
      simp [h, this]

/-! ### methods -/
/-- what becomes of a changing list -/
theorem put_ok {n : Nat} {p : Addr} {o : HO} {c : Cell} {d : D} {v : V} (S : StOk B H μ st) (h : μ[n]? = some p) (hc : CellOk B (upd H p o) μ p c) (hd : Rep B (upd H p o) μ d v) (W : Wd B H μ repD (.ok d (st.set n c)) Q) : Q v (upd H p o) := by
  obtain ⟨d', st', e, k⟩ := W
  cases e
  exact k v _ μ (Later.upd (List.mem_of_getElem? h)) (S.upd h hc) hd
def rSplit : V → List V → Hp → VK → Prop := fun x xs H Q => ∃ a b, x = .str a ∧ xs = [.str b] ∧ (b.length == 0) = false ∧ a.length + 2 ≤ sizeLine ∧ rNewStrs (Txt.split a b) H Q
def rPart : V → List V → Hp → VK → Prop := fun x xs H Q => ∃ a b, x = .str a ∧ xs = [.str b] ∧ (b.length == 0) = false ∧ a.length ≤ sizeLine ∧
    ∀ p, H p = none → Q (.ref p) (upd H p (.tup [.str (Txt.partition a b).1, .str (Txt.partition a b).2.1, .str (Txt.partition a b).2.2]))
def rJoin (K : PySem.W.Frag) : V → List V → Hp → VK → Prop := fun x xs H Q => ∃ a p, ∃ ys : List Str, x = .str a ∧ xs = [.ref p] ∧ (SqL K H p (ys.map V.str) ∨ SqT K H p (ys.map V.str)) ∧
    (ys.map (·.length)).sum + ys.length * a.length ≤ 16777216 ∧ Q (.str (Txt.join a ys)) H
def rCount : V → List V → Hp → VK → Prop := fun x xs H Q => ∃ a b, x = .str a ∧ xs = [.str b] ∧ Q (.int (Txt.count a b)) H
theorem len_one (c : Char) : ((Str.ofString (String.ofList [c])).length == 0) = false := by
  rw [len_s, String.length_ofList]; rfl
theorem sep_of {t : String} {c : Char} (h : t.toList = [c]) : t = String.ofList [c] := by rw [← h, String.ofList_toList]
theorem one_of {d : D} (r : Reps B H μ [d] vs) : ∃ v, vs = [v] ∧ Rep B H μ d v := by
  obtain ⟨v, vs, rfl, r1, r2⟩ := r
  cases r2
  exact ⟨v, rfl, r1⟩
theorem reps3 (a b c : String) : Reps B H μ [.str a, .str b, .str c] [.str (Str.ofString a), .str (Str.ofString b), .str (Str.ofString c)] := ⟨_, _, rfl, rfl, _, _, rfl, rfl, _, _, rfl, rfl, rfl⟩
/-- what a method does: its class's name, its own reading -/
def meR (K : PySem.W.Frag) : Me → V → List V → Hp → VK → Prop
  | .join => rJoin K
  | .partition => rPart
  | .split => rSplit
  | .count => rCount
  | .append => rAppend
  | .extend => rExtend
  | .get1 => fun x vs H Q => ∃ a y o, x = .ref a ∧ vs = [y] ∧ DGet H a y o ∧ Q (o.getD .non) H
  | .get2 => fun x vs H Q => ∃ a y z o, x = .ref a ∧ vs = [y, z] ∧ DGet H a y o ∧ Q (o.getD z) H
def meTy (K : PySem.W.Frag) : Me → V → Hp → Prop
  | .join | .partition | .split | .count => tyV K "str"
  | .append | .extend => tyV K "list"
  | .get1 | .get2 => fun x H => ∃ a, x = .ref a ∧ IsD H a
theorem meIs_ok {f : Me} (S : StOk B H μ st) (e : meIs st f a = true) (r : Rep B H μ a x) : meTy B.K f x H := by
  unfold meIs at e
  split at e
  iterate 4 (cases r; exact rfl)
  · obtain ⟨p, rfl, h⟩ := r
    split at e
    · rename_i q
      obtain ⟨p', h', c⟩ := S.of q
      rw [h] at h'; cases h'
      obtain ⟨vs, h2, _⟩ := c
      exact .inl ⟨rfl, vs, SqL.of h2⟩
    · cases e
  · obtain ⟨p, rfl, h⟩ := r
    split at e
    · rename_i q
      obtain ⟨p', h', c⟩ := S.of q
      rw [h] at h'; cases h'
      obtain ⟨vs, h2, _⟩ := c
      exact .inl ⟨rfl, vs, SqL.of h2⟩
    · cases e
  · obtain ⟨q, hq⟩ := Option.isSome_iff_exists.mp e
    obtain ⟨p, kvs, rfl, h, _⟩ := dct_rep S hq r
    exact ⟨p, rfl, .inl ⟨kvs, .inl h⟩⟩
  · obtain ⟨q, hq⟩ := Option.isSome_iff_exists.mp e
    obtain ⟨p, kvs, rfl, h, _⟩ := dct_rep S hq r
    exact ⟨p, rfl, .inl ⟨kvs, .inl h⟩⟩
  · cases e
theorem me_ok {f : Me} {ds : List D} (S : StOk B H μ st) (ra : Rep B H μ a x) (r : Reps B H μ ds vs) (W : Wd B H μ repD (meV f m a ds st) Q) : meR B.K f x vs H Q := by
  unfold meV at W
  split at W
  · rename_i s e
    obtain ⟨v, rfl, r1⟩ := one_of r
    split at W
    · rename_i l q
      obtain ⟨zs, e1, e2⟩ := Option.bind_eq_some_iff.mp q
      obtain ⟨p, vs, rfl, h, r2⟩ := seq_rep S e1 r1
      have := strs_rep e2 r2
      subst this
      cases ra
      split at W
      · rename_i hl
        refine ⟨_, p, l.map Str.ofString, rfl, rfl, h, ?_, W.here S (by show _ = _; rw [join_s])⟩
        unfold joinLen at hl
        have z : (l.map Str.ofString).map (·.length) = l.map String.length := by
          rw [List.map_map]
          exact List.map_congr_left fun t _ => len_s t
        rw [z, List.length_map, len_s]
        exact hl
      · exact W.not.elim
    · exact W.not.elim
  · rename_i s t
    obtain ⟨v, rfl, r1⟩ := one_of r
    cases r1; cases ra
    split at W
    · rename_i c hc
      split at W
      · rename_i hl
        refine ⟨_, _, rfl, rfl, by rw [sep_of hc]; exact len_one c, by rw [len_s, line_eq]; exact hl, fun p hp => ?_⟩
        rw [sep_of hc, part_s]
        split at W
        · rename_i u v q
          try rw [q]
          rw [sep_of hc] at W
          exact tup_ok S (reps3 _ _ _) W p hp
        · rename_i q
          try rw [q]
          exact tup_ok S (reps3 _ _ _) W p hp
      · exact W.not.elim
    · exact W.not.elim
  · rename_i s t
    obtain ⟨v, rfl, r1⟩ := one_of r
    cases r1; cases ra
    split at W
    · rename_i c hc
      split at W
      · rename_i hl
        refine ⟨_, _, rfl, rfl, by rw [sep_of hc]; exact len_one c, by rw [len_s, line_eq]; exact hl.1, fun p hp => ?_⟩
        rw [sep_of hc, split_s s c hl.2, List.map_map]
        refine newL_ok S ?_ W p hp
        have all : ∀ ls : List (List Char), Reps B H μ (ls.map fun l => D.str (String.ofList l)) (ls.map (V.str ∘ fun l => Str.ofString (String.ofList l))) := by
          intro ls
          induction ls with
          | nil => exact rfl
          | cons l ls ih => exact ⟨_, _, rfl, rfl, ih⟩
        exact all _
      · exact W.not.elim
    · exact W.not.elim
  · rename_i s t
    obtain ⟨v, rfl, r1⟩ := one_of r
    cases r1; cases ra
    split at W
    · rename_i c hc
      refine ⟨_, _, rfl, rfl, ?_⟩
      rw [sep_of hc, count_s]
      exact W.here S rfl
    · exact W.not.elim
  · rename_i n d
    obtain ⟨v, rfl, r1⟩ := one_of r
    obtain ⟨p, rfl, h⟩ := ra
    split at W
    · rename_i ys q
      split at W
      · rename_i hl
        obtain ⟨p', h', c⟩ := S.of q
        rw [h] at h'; cases h'
        obtain ⟨vs, h2, r2⟩ := c
        refine ⟨p, vs, v, rfl, rfl, h2, by rw [r2.length, line_eq]; exact hl, ?_⟩
        have L : Later H μ (upd H p (.lst (vs ++ [v]))) μ := Later.upd (List.mem_of_getElem? h)
        exact put_ok (d := .non) (c := .lst (ys ++ [d])) S h ⟨_, upd_same, Reps.mono L _ _ (Reps.app r2 ⟨v, [], rfl, r1, rfl⟩)⟩ rfl W
      · exact W.not.elim
    · exact W.not.elim
  · rename_i n d
    obtain ⟨v, rfl, r1⟩ := one_of r
    obtain ⟨p, rfl, h⟩ := ra
    split at W
    · rename_i ys zs q q2
      split at W
      · rename_i hl
        obtain ⟨p', h', c⟩ := S.of q
        rw [h] at h'; cases h'
        obtain ⟨vs, h2, r2⟩ := c
        obtain ⟨b, ws, rfl, h3, r3⟩ := lst_rep S q2 r1
        refine ⟨p, b, vs, ws, rfl, rfl, h2, h3, by rw [r2.length, r3.length, line_eq]; exact hl, ?_⟩
        have L : Later H μ (upd H p (.lst (vs ++ ws))) μ := Later.upd (List.mem_of_getElem? h)
        exact put_ok (d := .non) (c := .lst (ys ++ zs)) S h ⟨_, upd_same, Reps.mono L _ _ (Reps.app r2 r3)⟩ rfl W
      · exact W.not.elim
    · exact W.not.elim
  · rename_i k d
    obtain ⟨v, vs, rfl, r1, r2⟩ := r
    obtain ⟨w, rfl, r5⟩ := one_of r2
    split at W
    · rename_i ks us j h1 h2
      obtain ⟨p, kvs, rfl, h, hk, r3⟩ := dct_rep S h1 ra
      have ex := kyOf_rep h2 r1
      subst ex
      refine ⟨p, _, w, _, rfl, rfl, DGet.k h, ?_⟩
      rcases look_rep (k := j) hk r3 with ⟨l1, l2⟩ | ⟨d, u, l1, l2, r4⟩
      · rw [l2]; rw [l1] at W; exact W.here S r5
      · rw [l2]; rw [l1] at W; exact W.here S r4
    · exact W.not.elim
  · rename_i k
    obtain ⟨v, rfl, r1⟩ := one_of r
    split at W
    · rename_i ks us j h1 h2
      obtain ⟨p, kvs, rfl, h, hk, r3⟩ := dct_rep S h1 ra
      have ex := kyOf_rep h2 r1
      subst ex
      refine ⟨p, _, _, rfl, rfl, DGet.k h, ?_⟩
      rcases look_rep (k := j) hk r3 with ⟨l1, l2⟩ | ⟨d, u, l1, l2, r4⟩
      · rw [l2]; rw [l1] at W; exact W.here S rfl
      · rw [l2]; rw [l1] at W; exact W.here S r4
    · exact W.not.elim
  · exact W.not.elim
end
end Rx

set_option Elab.async false
set_option linter.all false
set_option maxRecDepth 100000
set_option maxHeartbeats 4000000
set_option autoImplicit false
namespace Rx
open PySem L2 TL

/-! ### the check of codes against the text -/
structure Tab where
  fs : List Str
  gs : List (Str × D)
  bs : List Str
def visB (sc : Scope) (x : Str) : Bool := match sc.names.lookup x with
  | some .local => true
  | some .cell => true
  | some .free => true
  | _ => false
def locB (sc : Scope) (x : Str) : Bool := match sc.names.lookup x with
  | some .local => true
  | some .cell => true
  | _ => false
def glB (sc : Scope) (x : Str) : Bool := match sc.names.lookup x with
  | some .globalImplicit => true
  | _ => false
def nmB (x : Str) : Bool := !(x == ("__debug__" : Str)) && !(x == ("__classdict__" : Str)) && !(x == ("__name__" : Str))
def boOp : Bo → Operator
  | .add => .Add | .sub => .Sub | .mul => .Mult | .div => .FloorDiv | .mod => .Mod | .pow => .Pow | .shl => .LShift | .shr => .RShift | .band => .BitAnd | .bor => .BitOr
def coOp : Co → CmpOp
  | .eq => .Eq | .ne => .NotEq | .lt => .Lt | .le => .LtE | .gt => .Gt | .ge => .GtE | .isin => .In | .notin => .NotIn | .is => .Is | .isnot => .IsNot
def litB (d : D) (c : Const) : Bool := match d, c with
  | .non, .none => true
  | .bl a, .bool b => a == b
  | .int i, .int j => i == j
  | .str s, .str x => decide (x = Str.ofString s)
  | _, _ => false
def notStar : Expr → Bool
  | .Starred _ _ => false
  | _ => true
def notSet : Expr → Bool
  | .Set _ _ _ => false
  | _ => true
def notSlice : Expr → Bool
  | .Slice _ _ _ _ => false
  | _ => true
def notCall0 : Expr → Bool
  | .Call (.Name _ _) [] [] _ => false
  | _ => true
/-- an expression whose test is its value's truth -/
def plainT : Expr → Bool
  | .UnaryOp .Not _ _ => false
  | .BoolOp _ _ _ => false
  | .IfExp _ _ _ _ => false
  | .Compare _ _ _ _ => false
  | _ => true
def biN (b : Bi) : Str := (biS b).2
def meN : Me → String
  | .join => "join" | .partition => "partition" | .split => "split" | .count => "count" | .append => "append" | .extend => "extend" | .get1 => "get" | .get2 => "get"
def meA : Me → Nat
  | .get2 => 2
  | _ => 1
def tgB (N : List Str) (sc : Scope) (t : Tg) (e : Expr) : Bool := match t, e with
  | .nm i, .Name x _ => decide (N[i]? = some x) && locB sc x
  | .tu is, .Tuple es _ _ => tgsB N sc is es
  | _, _ => false
where tgsB (N : List Str) (sc : Scope) : List Nat → List Expr → Bool
  | [], [] => true
  | i :: is, .Name x _ :: es => decide (N[i]? = some x) && locB sc x && tgsB N sc is es
  | _, _ => false
def tgS : Tg → List Nat
  | .nm i => [i]
  | .tu is => is
def ownOf (N : List Str) (own : List Nat) : List (Str × Nat) := own.map fun i => (N.getD i "", i)
def isTup : Expr → Bool
  | .Tuple _ _ _ => true
  | _ => false
section
variable (T : Tab) (N : List Str)
def callB (sc : Scope) (x : Str) : Bool := glB sc x && nmB x
mutual
def okE : E → Scope → Bool → Expr → Bool
  | .lit d, sc, t, e => match e with
    | .Constant c _ _ => litB d c
    | _ => false
  | .glo d, sc, t, e => match e with
    | .Name x _ => callB sc x && T.gs.any fun p => decide (p.1 = x) && D.same p.2 d
    | _ => false
  | .var i, sc, t, e => match e with
    | .Name x _ => decide (N[i]? = some x) && visB sc x && nmB x
    | _ => false
  | .bop o m a b, sc, t, e => match e with
    | .BinOp l op r _ => decide (op = boOp o) && okE a sc false l && okE b sc false r
    | _ => false
  | .neg a, sc, t, e => match e with
    | .UnaryOp .USub x _ => okE a sc false x
    | _ => false
  | .inot a, sc, t, e => match e with
    | .UnaryOp .Not x _ => okE a sc t x
    | _ => false
  | .tru a, sc, t, e => t && plainT e && okE a sc false e
  | .cmp o a b, sc, t, e => match e with
    | .Compare l [op] [r] _ => decide (op = coOp o) && notSet r && okE a sc false l && okE b sc false r
    | _ => false
  | .chn o p a b c, sc, t, e => match e with
    | .Compare l [op, op'] [r, r'] _ => decide (op = coOp o) && decide (op' = coOp p) && notSet r && notSet r' && okE a sc false l && okE b sc false r && okE c sc false r'
    | _ => false
  | .ands es, sc, t, e => match e with
    | .BoolOp .And vs _ => okEs es sc t vs
    | _ => false
  | .ors es, sc, t, e => match e with
    | .BoolOp .Or vs _ => okEs es sc t vs
    | _ => false
  | .ite c a b, sc, t, e => match e with
    | .IfExp x y z _ => !t && okE c sc true x && okE a sc false y && okE b sc false z
    | _ => false
  | .tup es, sc, t, e => match e with
    | .Tuple vs _ _ => okEs es sc false vs
    | _ => false
  | .lst m es, sc, t, e => match e with
    | .List vs _ => okEs es sc false vs
    | _ => false
  | .dct m es, sc, t, e => match e with
    | .Dict xs ys _ => okK es sc xs ys && decide (xs.length ≤ 15)
    | _ => false
  | .ix a i, sc, t, e => match e with
    | .Subscript x y _ => notSlice y && okE a sc false x && okE i sc false y
    | _ => false
  | .sl m a lo hi, sc, t, e => match e with
    | .Subscript x (.Slice l h none _) _ => okE a sc false x && okO lo sc l && okO hi sc h
    | _ => false
  | .call f es, sc, t, e => match e with
    | .Call (.Name x _) args [] _ => callB sc x && decide (T.fs[f]? = some x) && okEs es sc false args
    | _ => false
  | .bi b m es, sc, t, e => match e with
    | .Call (.Name x _) args [] _ => callB sc x && decide (x = biN b) && T.bs.contains x && !args.isEmpty && okEs es sc false args
    | _ => false
  | .isi a ty, sc, t, e => match e with
    | .Call (.Name x _) [y, .Name z _] [] _ => callB sc x && decide (x = ("isinstance" : Str)) && T.bs.contains x && callB sc z && decide (z = (tyS ty : Str)) && T.bs.contains z && notStar y && okE a sc false y
    | _ => false
  | .me f m o es, sc, t, e => match e with
    | .Call (.Attribute y x apos) args [] pos => decide (x = (meN f : Str)) && decide (args.length = meA f) && decide (apos.endLine = pos.line) && notCall0 y && okE o sc false y && okEs es sc false args
    | _ => false
  | .lc m elt tg it c own, sc, t, e => match e with
    | .ListComp y [⟨g, i, ifs, 0⟩] scope _ => blkC N sc scope (ownOf N own) && own.all (fun i => decide (i < N.length)) && (tgS tg).all (fun i => own.contains i) && tgB N (relS scope sc) tg g && tgB N scope tg g && notSet i && okI it sc g i &&
      okC c (relS scope sc) ifs && okE elt (relS scope sc) false y
    | _ => false
def okEs : Es → Scope → Bool → List Expr → Bool
  | .nil, _, _, es => es.isEmpty
  | .cons c cs, sc, t, es => match es with
    | e :: es => notStar e && okE c sc t e && okEs cs sc t es
    | [] => false
def okK : Es → Scope → List (Option Expr) → List Expr → Bool
  | .nil, _, xs, ys => xs.isEmpty && ys.isEmpty
  | .cons c .nil, _, _, _ => false
  | .cons c (.cons d r), sc, xs, ys => match xs, ys with
    | some x :: xs, y :: ys => okE c sc false x && okE d sc false y && okK r sc xs ys
    | _, _ => false
def okO : Oe → Scope → Option Expr → Bool
  | .non, _, e => e.isNone
  | .som c, sc, e => match e with
    | some e => okE c sc false e
    | none => false
def okC : Oe → Scope → List Expr → Bool
  | .non, _, es => es.isEmpty
  | .som c, sc, es => match es with
    | [e] => okE c sc true e
    | _ => false
def okI : I → Scope → Expr → Expr → Bool
  | .it c, sc, g, e => okE c sc false e
  | .rng c, sc, g, e => match e with
    | .Call (.Name x _) [a] [] _ => callB sc x && decide (x = ("range" : Str)) && T.bs.contains x && notStar a && okE c sc false a
    | _ => false
  | .rng2 c d, sc, g, e => match e with
    | .Call (.Name x _) [a, b] [] _ => callB sc x && decide (x = ("range" : Str)) && T.bs.contains x && notStar a && notStar b && okE c sc false a && okE d sc false b
    | _ => false
  | .enum c, sc, g, e => match e with
    | .Call (.Name x _) [a] [] _ => isTup g && callB sc x && decide (x = ("enumerate" : Str)) && T.bs.contains x && notStar a && okE c sc false a
    | _ => false
  | .zip c d, sc, g, e => match e with
    | .Call (.Name x _) [a, b] [] _ => isTup g && callB sc x && decide (x = ("zip" : Str)) && T.bs.contains x && notStar a && notStar b && okE c sc false a && okE d sc false b
    | _ => false
end
/-- what exchanges the stores of a comprehension's variables and of its target -/
def swapB (sc : Scope) (value : Expr) (t : Expr) (line : Nat) : Bool := match value with
  | .ListComp _ _ s _ => match t with
    | .Name x pos => (match sc.names.lookup x with | some .local => true | _ => false) && pos.line == value.pos.line && !(s.names.any fun (n, k) => n == x && (k == .local || k == .cell))
    | _ => false
  | _ => false
def notSC : Expr → Bool
  | .SetComp _ _ _ _ => false
  | .DictComp _ _ _ _ _ => false
  | _ => true
def notC : Expr → Bool
  | .ListComp _ _ _ _ => false
  | .SetComp _ _ _ _ => false
  | .DictComp _ _ _ _ _ => false
  | _ => true
/-- (a, b) = (c, d) is not one of ours -/
def notPair : Expr → Bool
  | .Tuple _ _ _ => false
  | .List _ _ => false
  | _ => true
mutual
def okS : S → Scope → Stmt → Bool
  | .ret c, sc, s => match s with
    | .Return (some e) _ => okE T N c sc false e
    | _ => false
  | .retN, sc, s => match s with
    | .Return none _ => true
    | _ => false
  | .expr c, sc, s => match s with
    | .Expr e _ => notC e && okE T N c sc false e
    | _ => false
  | .pass, sc, s => match s with
    | .Pass _ => true
    | _ => false
  | .asg tg c, sc, s => match s with
    | .Assign [g] e pos => (notC e || (swapB sc e g pos.line && (match sc.kind with | .function => true | _ => false))) && (match tg with | .nm _ => true | .tu _ => notPair e) && tgB N sc tg g && okE T N c sc false e
    | _ => false
  | .put o i c, sc, s => match s with
    | .Assign [.Subscript x y _] e _ => notC e && notSlice y && okE T N o sc false x && okE T N i sc false y && okE T N c sc false e
    | _ => false
  | .iff c a b, sc, s => match s with
    | .If t x y _ => okE T N c sc true t && okSs a sc x && okSs b sc y
    | _ => false
  | .for_ tg it b, sc, s => match s with
    | .For g i x [] _ => notSet i && tgB N sc tg g && okI T N it sc g i && okSs b sc x
    | _ => false
def okSs : Ss → Scope → List Stmt → Bool
  | .nil, _, ss => ss.isEmpty
  | .cons s r, sc, ss => match ss with
    | x :: xs => okS s sc x && okSs r sc xs
    | [] => false
end
end
end Rx

set_option Elab.async false
set_option linter.all false
set_option maxRecDepth 100000
set_option maxHeartbeats 4000000
set_option autoImplicit false
namespace Rx
open PySem L2 TL

/-! ### the context -/
/-- a def's promise: what the interpreter says -/
def spF (K : PySem.W.Frag) (C : CallF) (f n : Nat) : Sp := fun vs H Q _ => ∃ B μ st ds, B.K = K ∧ StOk B H μ st ∧ Reps B H μ ds vs ∧ vs.length = n ∧ Wd B H μ repD (C f ds st) Q
structure Good (T : Tab) (C : CallF) (k : Nat) (X : Cx) : Prop where
  nd : X.N.Nodup
  calm : X.calm = true
  room : Room k X.A
  bs : ∀ x, T.bs.contains x = true → X.mg x = none
  gs : ∀ x d, (x, d) ∈ T.gs → ∃ u v, X.mg x = some u ∧ RelV v u ∧ ∀ B H μ, B.K = X.K → Rep B H μ d v
  fs : ∀ (f : Nat) x, T.fs[f]? = some x → ∃ fa fd ps, X.mg x = some (.ref fa) ∧ PySem.W.keepIn X.K (.ref fa) = true ∧ Binds X.K fd ps [] ∧ (∀ ds st, C f ds st ≠ .no → ds.length = ps.length) ∧ FnOk X.prog X.w X.K X.mg X.base CX0 k fa fd ps (spF X.K C f ps.length)
section
variable {T : Tab} {C : CallF} {k : Nat} {X : Cx}
theorem Good.blk (G : Good T C k X) (s : Shared) (H : Hp) (scope : Scope) (cenv : PySem.Env) (fp : List Addr) : Good T C k (X.blk s H scope cenv fp) := ⟨G.nd, G.calm, G.room, G.bs, G.gs, G.fs⟩
theorem Good.u (G : Good T C k X) : X.A.units + 200 < cLine := by
  have := G.room.un
  omega
def tE (K : PySem.W.Frag) (C : CallF) (c : E) : TE := tR K repD fun ρ st => evE C ρ c st
def tT (K : PySem.W.Frag) (C : CallF) (c : E) : TT := tR K repB fun ρ st => (evE C ρ c st).bind boolOf
def tEs (K : PySem.W.Frag) (C : CallF) (cs : Es) : TA := tR K repDs fun ρ st => evEs C ρ cs st
theorem PE.imp {e : Expr} {t t' : TE} (h : PE X e t) (i : ∀ σ H Q, t' σ H Q → t σ H Q) : PE X e t' := ⟨fun pins s σ H Q I w => h.run pins s σ H Q I (i _ _ _ w)⟩
theorem PT.imp {e : Expr} {t t' : TT} (h : PT X e t) (i : ∀ σ H Q, t' σ H Q → t σ H Q) : PT X e t' := ⟨fun pins s σ H Q I w => h.run pins s σ H Q I (i _ _ _ w)⟩
theorem PW.imp {e : Expr} {t t' : TT} (h : PW X e t) (i : ∀ σ H Q, t' σ H Q → t σ H Q) : PW X e t' := ⟨fun wh pins s σ H Q I w => h.run wh pins s σ H Q I (i _ _ _ w)⟩
theorem PA.imp {e : List Expr} {t t' : TA} (h : PA X e t) (i : ∀ σ H Q, t' σ H Q → t σ H Q) : PA X e t' := ⟨fun pos pins s σ H Q I w => h.run pos pins s σ H Q I (i _ _ _ w)⟩
theorem PS.imp {e : Stmt} {t t' : TS} (h : PS X e t) (i : ∀ D σ H, t' D σ H → t D σ H) : PS X e t' := ⟨fun pins s σ H D I w => h.run pins s σ H D I (i _ _ _ w)⟩
theorem PSs.imp {e : List Stmt} {t t' : TS} (h : PSs X e t) (i : ∀ D σ H, t' D σ H → t D σ H) : PSs X e t' := ⟨fun pins s σ H D I w => h.run pins s σ H D I (i _ _ _ w)⟩
theorem PI.imp {tg e : Expr} {t t' : TI} (h : PI X tg e t) (i : ∀ σ H Q, t' σ H Q → t σ H Q) : PI X tg e t' := ⟨fun pins s σ H Q I w => h.run pins s σ H Q I (i _ _ _ w)⟩
end
section
variable {α β γ δ : Type} {R : RR α β} {R' : RR γ δ} {K : PySem.W.Frag} {B : Bg} {H : Hp} {μ : List Addr} {ρ : Slots} {σ : L2.St} {st : Store} {Q : δ → Hp → Prop} {P : β → Hp → Prop} {f : Slots → Store → Rx.Res α} {g : α → Store → Rx.Res γ}
theorem go (f : Slots → Store → Rx.Res α) (hB : B.K = K) (N : Now B H μ ρ σ st) (W : Wd B H μ R' ((f ρ st).bind g) Q)
    (k : ∀ μ1 st1 d x H1, Later H μ H1 μ1 → Now B H1 μ1 ρ σ st1 → R B H1 μ1 d x → Wd B H1 μ1 R' (g d st1) Q → P x H1) : tR K R f σ H P :=
  ⟨B, μ, ρ, st, hB, N, W.seq.imp fun x H1 ⟨μ1, d, st1, L, S, r, W⟩ => k μ1 st1 d x H1 L (N.later L S) r W⟩
end

section
variable {T : Tab} {C : CallF} {k : Nat} {X : Cx} {e e1 e2 e3 : Expr} {a b c : E} {pos : Pos}
/-! ### small checks -/
theorem vis_of {sc : Scope} {x : Str} (h : visB sc x = true) : Vis sc x := by
  unfold visB at h
  unfold Vis
  split at h <;> simp_all
theorem loc_of {sc : Scope} {x : Str} (h : locB sc x = true) (h' : True := trivial) : L2.Loc sc x := by
  unfold locB at h
  unfold L2.Loc
  split at h <;> simp_all
theorem gl_of {x : Str} (h : glB X.env.scope x = true) : Gl X x := by
  unfold glB at h
  show X.env.scope.names.lookup x = _
  split at h <;> simp_all
theorem nm_of {x : Str} (h : nmB x = true) : (x == ("__debug__" : Str)) = false ∧ (x == ("__classdict__" : Str)) = false ∧ x ≠ "__name__" := by
  unfold nmB at h
  rw [Bool.and_eq_true, Bool.and_eq_true] at h
  refine ⟨by simpa using h.1.1, by simpa using h.1.2, fun z => ?_⟩
  have := h.2
  rw [z] at this
  simp at this
theorem call_of {x : Str} (h : callB X.env.scope x = true) : Gl X x ∧ (x == ("__debug__" : Str)) = false ∧ x ≠ "__name__" := by
  unfold callB at h
  rw [Bool.and_eq_true] at h
  exact ⟨gl_of h.1, (nm_of h.2).1, (nm_of h.2).2.2⟩
theorem star_of {es : List Expr} (h : notStar e = true) : starEach (e :: es) X.env = (false, eval e X.env) :: starEach es X.env := by
  cases e <;> first | rfl | cases h
def noStars : List Expr → Bool
  | [] => true
  | e :: es => notStar e && noStars es
theorem plain_of (pos : Pos) : ∀ {es : List Expr}, noStars es = true → (backTo pos (starEach es X.env)).any (·.1) = false
  | [], _ => by simp [starEach, backTo]
  | e :: es, h => by
    unfold noStars at h
    rw [Bool.and_eq_true] at h
    have ih := plain_of pos h.2
    rw [star_of h.1]
    simp only [backTo, List.map_cons, List.any_cons, Bool.false_or] at ih ⊢
    exact ih
theorem few_of (pos : Pos) : ∀ {es : List Expr}, noStars es = true → (backTo pos (starEach es X.env)).all (fun x => !x.1) = true
  | [], _ => by simp [starEach, backTo]
  | e :: es, h => by
    unfold noStars at h
    rw [Bool.and_eq_true] at h
    have ih := few_of pos h.2
    rw [star_of h.1]
    simp only [backTo, List.map_cons, List.all_cons, Bool.not_false, Bool.true_and] at ih ⊢
    exact ih
theorem trees_of (pos : Pos) : ∀ {es : List Expr}, noStars es = true → backTo pos (starEach es X.env) = es.map fun e => (false, eval e X.env)
  | [], _ => by simp [starEach, backTo]
  | e :: es, h => by
    unfold noStars at h
    rw [Bool.and_eq_true] at h
    have ih := trees_of pos h.2
    rw [star_of h.1]
    simp only [backTo, List.map_cons] at ih ⊢
    rw [ih]; rfl
theorem base_of {x : Str} (h : notCall0 e = true) : attributeBase e x X.env (eval e X.env) = eval e X.env := by
  cases e with
  | Call f as ks p =>
    cases f <;> first
      | rfl
      | (cases as with
        | cons _ _ => rfl
        | nil => cases ks with
          | cons _ _ => rfl
          | nil => cases h)
  | _ => rfl
theorem mark_of (op : CmpOp) (h : notSet e = true) : behindInMarks op e = false := by
  cases e <;> first | rfl | cases h
theorem test_of (h : plainT e = true) : ∀ whole, isTrue e X.env whole = (do let v ← whole; standAt e.pos; holding [v] (truthy v)) := by
  intro w
  cases e with
  | UnaryOp o x p => cases o <;> first | rfl | cases h
  | _ => first | rfl | cases h
theorem ix_of (h : notSlice e = true) : PlainIx e := by
  intro o i
  cases e <;> first | rfl | cases h
theorem swap_none {line : Nat} {t : Option Expr} (h : notC e = true) : swapsWith e t line X.env = pure false := by
  cases e <;> first | rfl | cases h
theorem fold_of (h : notSet e = true) : ∀ x, foldedSetIterable e X.env x = pure x := by
  intro x
  cases e <;> first | rfl | cases h

/-! ### expressions -/
/-- what a code's check gives: as a value, as a test -/
def Snd (X : Cx) (C : CallF) (t : Bool) (c : E) (e : Expr) : Prop := (t = false → PE X e (tE X.K C c)) ∧ (t = true → PT X e (tT X.K C c))
theorem toB {B : Bg} {H : Hp} {μ : List Addr} {d : D} {st : Store} {x : V} {Q : Bool → Hp → Prop} (S : StOk B H μ st) (r : Rep B H μ d x) (W : Wd B H μ repB (boolOf d st) Q) : ∃ k, d = .bl k ∧ x = .bl k ∧ Q k H := by
  unfold boolOf at W
  split at W
  · cases r
    exact ⟨_, rfl, rfl, W.here S rfl⟩
  · exact W.not.elim
/-- an expression whose test is its value's, a bool -/
theorem Snd.plain {t : Bool} {c : E} (hp : plainT e = true) (h : PE X e (tE X.K C c)) : Snd X C t c e := by
  refine ⟨fun _ => h, fun _ => PT.imp (pt_val h (test_of hp)) fun σ H Q ⟨B, μ, ρ, st, hB, N, W⟩ => ?_⟩
  refine go (R := repD) (fun ρ st => evE C ρ c st) hB N W fun μ1 st1 d x H1 L N1 r W => ?_
  obtain ⟨k, _, h2, q⟩ := toB N1.st r W
  exact ⟨k, h2, q⟩
theorem snd_lit {t : Bool} {d : D} {cst : Const} {j : Nat} (h : litB d cst = true) : Snd X C t (.lit d) (.Constant cst j pos) := by
  refine Snd.plain rfl ?_
  have key : ∀ v, PE X (.Constant cst j pos) (tC v) → (∀ B H μ, Rep B H μ d v) → PE X (.Constant cst j pos) (tE X.K C (.lit d)) := fun v p r =>
    PE.imp p fun σ H Q ⟨B, μ, ρ, st, hB, N, W⟩ => W.here N.st (r _ _ _)
  cases d <;> cases cst <;> first | (cases h; done) | skip
  · exact key _ pe_non fun _ _ _ => rfl
  · cases (beq_iff_eq.mp h : _ = _); exact key _ pe_bl fun _ _ _ => rfl
  · cases (beq_iff_eq.mp h : _ = _); exact key _ pe_int fun _ _ _ => rfl
  · have e := of_decide_eq_true h
    subst e
    exact key _ pe_str fun _ _ _ => rfl
theorem snd_var {t : Bool} {i : Nat} {x : Str} (h1 : X.N[i]? = some x) (h2 : visB X.env.scope x = true) (h3 : nmB x = true) : Snd X C t (.var i) (.Name x pos) := by
  refine Snd.plain rfl ?_
  refine PE.imp (pe_var h1 (vis_of h2) (nm_of h3).1 (nm_of h3).2.1) fun σ H Q ⟨B, μ, ρ, st, hB, N, W⟩ => ?_
  simp only [evE] at W
  split at W
  · rename_i d q
    obtain ⟨v, h, r⟩ := N.sl i d q
    exact ⟨v, h, W.here N.st r⟩
  · exact W.not.elim
theorem snd_glo {t : Bool} {d : D} {x : Str} (G : Good T C k X) (h1 : callB X.env.scope x = true) (h2 : (x, d) ∈ T.gs) : Snd X C t (.glo d) (.Name x pos) := by
  refine Snd.plain rfl ?_
  obtain ⟨u, v, hm, r, rep⟩ := G.gs x d h2
  obtain ⟨g1, g2, g3⟩ := call_of h1
  refine PE.imp (pe_glob g1 hm r g2) fun σ H Q ⟨B, μ, ρ, st, hB, N, W⟩ => ?_
  simp only [evE] at W
  exact W.here N.st (rep B H μ hB)
/-- an operator by its rule -/
theorem pe_bin {o : Bo} {m : Bool} {r : R2} (ho : OpR X (binaryOp (boOp o)) r)
    (hr : ∀ {B : Bg} {H : Hp} {μ : List Addr} {st : Store} {a b : D} {x y : V} {Q : VK}, B.K = X.K → StOk B H μ st → Rep B H μ a x → Rep B H μ b y → Wd B H μ repD (bop o m a b st) Q → r x y H Q)
    (ha : PE X e1 (tE X.K C a)) (hb : PE X e2 (tE X.K C b)) : PE X (.BinOp e1 (boOp o) e2 pos) (tE X.K C (.bop o m a b)) := by
  refine PE.imp (pe_op ho ha hb) fun σ H Q ⟨B, μ, ρ, st, hB, N, W⟩ => ?_
  simp only [evE] at W
  refine go (R := repD) (fun ρ st => evE C ρ a st) hB N W fun μ1 st1 d x H1 L N1 ra W => ?_
  refine go (R := repD) (fun ρ st => evE C ρ b st) hB N1 W fun μ2 st2 d2 y H2 L2 N2 rb W => ?_
  exact hr hB N2.st (Rep.mono L2 _ _ ra) rb W
theorem snd_bop {o : Bo} {m t : Bool} (ha : PE X e1 (tE X.K C a)) (hb : PE X e2 (tE X.K C b)) : Snd X C t (.bop o m a b) (.BinOp e1 (boOp o) e2 pos) := by
  refine Snd.plain rfl ?_
  cases o with
  | add => exact pe_bin (o := .add) op_addX (fun hB S ra rb W => hB ▸ add_ok S ra rb W) ha hb
  | sub => exact pe_bin (o := .sub) op_sub (fun hB S ra rb W => sub_ok S ra rb W) ha hb
  | mul => exact pe_bin (o := .mul) op_mulX (fun hB S ra rb W => hB ▸ mul_ok S ra rb W) ha hb
  | div => exact pe_bin (o := .div) op_fdiv (fun hB S ra rb W => div_ok S ra rb W) ha hb
  | mod => exact pe_bin (o := .mod) op_mod (fun hB S ra rb W => mod_ok S ra rb W) ha hb
  | pow => exact pe_bin (o := .pow) op_pow (fun hB S ra rb W => pow_ok S ra rb W) ha hb
  | shl => exact pe_bin (o := .shl) op_shl (fun hB S ra rb W => shl_ok S ra rb W) ha hb
  | shr => exact pe_bin (o := .shr) op_shr (fun hB S ra rb W => shr_ok S ra rb W) ha hb
  | band => exact pe_bin (o := .band) op_and (fun hB S ra rb W => by
      obtain ⟨i, j, h1, h2, k, e, q⟩ := int2 (by decide) (by decide) S ra rb W
      cases e) ha hb
  | bor => exact pe_bin (o := .bor) op_or (fun hB S ra rb W => by
      obtain ⟨i, j, h1, h2, k, e, q⟩ := int2 (by decide) (by decide) S ra rb W
      cases e) ha hb
theorem snd_neg {t : Bool} (ha : PE X e1 (tE X.K C a)) : Snd X C t (.neg a) (.UnaryOp .USub e1 pos) := by
  refine Snd.plain rfl ?_
  refine PE.imp (pe_un un_neg ha) fun σ H Q ⟨B, μ, ρ, st, hB, N, W⟩ => ?_
  simp only [evE] at W
  refine go (R := repD) (fun ρ st => evE C ρ a st) hB N W fun μ1 st1 d x H1 L N1 ra W => ?_
  split at W
  · cases ra
    exact ⟨_, rfl, W.here N1.st rfl⟩
  · exact W.not.elim
theorem seqB {B : Bg} {H : Hp} {μ : List Addr} {r : Rx.Res D} {β γ : Type} {R' : RR β γ} {g : Bool → Store → Rx.Res β} {Q : γ → Hp → Prop} (W : Wd B H μ R' ((r.bind boolOf).bind g) Q) : ∃ z, Wd B H μ R' (r.bind fun d st => (boolOf d st).bind g) Q ∧ z = () := by
  refine ⟨(), ?_, rfl⟩
  cases r <;> exact W
theorem snd_not {t : Bool} (h : Snd X C t a e1) : Snd X C t (.inot a) (.UnaryOp .Not e1 pos) := by
  refine ⟨fun ht => ?_, fun ht => ?_⟩
  · refine PE.imp (pe_not (h.1 ht)) fun σ H Q ⟨B, μ, ρ, st, hB, N, W⟩ => ?_
    simp only [evE] at W
    obtain ⟨_, W, _⟩ := seqB W
    refine go (R := repD) (fun ρ st => evE C ρ a st) hB N W fun μ1 st1 d x H1 L N1 ra W => ?_
    unfold boolOf at W
    split at W
    · cases ra
      exact ⟨_, rfl, W.here N1.st rfl⟩
    · exact W.not.elim
  · refine PT.imp (pt_not (h.2 ht)) fun σ H Q ⟨B, μ, ρ, st, hB, N, W⟩ => ?_
    simp only [evE] at W
    have W2 : Wd B H μ repB (((evE C ρ a st).bind boolOf).bind fun b st => .ok (!b) st) Q := by
      cases hz : (evE C ρ a st).bind boolOf with
      | no => rw [hz] at W; exact W.not.elim
      | ok d st1 => rw [hz] at W; exact W
    refine go (R := repB) (fun ρ st => (evE C ρ a st).bind boolOf) hB N W2 fun μ1 st1 d x H1 L N1 ra W => ?_
    cases ra
    exact W.here N1.st rfl
end
end Rx

set_option Elab.async false
set_option linter.all false
set_option maxRecDepth 100000
set_option maxHeartbeats 4000000
set_option autoImplicit false
namespace Rx
open PySem L2 TL

/-! ### what is walked -/
mutual
theorem same_eq : ∀ a b : D, D.same a b = true → a = b
  | .non, b, h => by cases b <;> first | rfl | cases h
  | .bl x, b, h => by cases b <;> first | (cases h; done) | (simp only [D.same, beq_iff_eq] at h; rw [h])
  | .int x, b, h => by cases b <;> first | (cases h; done) | (simp only [D.same, beq_iff_eq] at h; rw [h])
  | .str x, b, h => by cases b <;> first | (cases h; done) | (simp only [D.same, beq_iff_eq] at h; rw [h])
  | .tup xs, b, h => by cases b <;> first | (cases h; done) | (simp only [D.same] at h; rw [sameAll_eq _ _ h])
  | .lst xs, b, h => by cases b <;> first | (cases h; done) | (simp only [D.same] at h; rw [sameAll_eq _ _ h])
  | .ro xs, b, h => by cases b <;> first | (cases h; done) | (simp only [D.same] at h; rw [sameAll_eq _ _ h])
  | .dct ks xs, b, h => by
    cases b <;> first | (cases h; done) | skip
    simp only [D.same, Bool.and_eq_true, decide_eq_true_eq] at h
    rw [h.1, sameAll_eq _ _ h.2]
  | .loc n, b, h => by cases b <;> first | (cases h; done) | (simp only [D.same, beq_iff_eq] at h; rw [h])
theorem sameAll_eq : ∀ a b : List D, D.sameAll a b = true → a = b
  | [], [], _ => rfl
  | [], _ :: _, h => by cases h
  | _ :: _, [], h => by cases h
  | x :: xs, y :: ys, h => by
    simp only [D.sameAll, Bool.and_eq_true] at h
    rw [same_eq x y h.1, sameAll_eq xs ys h.2]
end
/-- a list to be walked, with the place that must not change -/
def IsL (d : D) (xs : List D) (ats : List (Nat × List D)) : Prop := (d = .lst xs ∧ ats = []) ∨ (d = .ro xs ∧ ats = []) ∨ ∃ n, d = .loc n ∧ ats = [(n, xs)]
inductive Wk (B : Bg) (H : Hp) (μ : List Addr) : Walked → It → Prop where
  | tup {xs : List D} {a : Addr} (r : Rep B H μ (.tup xs) (.ref a)) : Wk B H μ ⟨xs, []⟩ (Itt B.K a)
  | lst {d : D} {xs : List D} {ats : List (Nat × List D)} {a : Addr} (i : IsL d xs ats) (r : Rep B H μ d (.ref a)) : Wk B H μ ⟨xs, ats⟩ (Itl B.K a)
  | str (s : String) : Wk B H μ ⟨s.toList.map fun c => .str (String.ofList [c]), []⟩ (Its (Str.ofString s))
  | rang (i j : Int) : Wk B H μ ⟨rng i j, []⟩ (Itr i (j - i).toNat)
  | enum {d : D} {xs : List D} {ats : List (Nat × List D)} {a : Addr} (i : IsL d xs ats) (r : Rep B H μ d (.ref a)) : Wk B H μ ⟨enumL 0 xs, ats⟩ (Ite B.K a)
  | zipT {xs ys : List D} {a b : Addr} (r : Rep B H μ (.tup xs) (.ref a)) (s : Rep B H μ (.tup ys) (.ref b)) : Wk B H μ ⟨zipL xs ys, []⟩ (RZ.ItzT B.K a b)
  | zipL {d f : D} {xs ys : List D} {us vs : List (Nat × List D)} {a b : Addr} (i : IsL d xs us) (r : Rep B H μ d (.ref a)) (j : IsL f ys vs) (s : Rep B H μ f (.ref b)) : Wk B H μ ⟨zipL xs ys, us ++ vs⟩ (Itz B.K a b)
def repW : RR Walked It := fun B H μ w J => Wk B H μ w J
section
variable {B B' : Bg} {H H' : Hp} {μ μ' : List Addr} {st : Store} {w : Walked} {J : It}
theorem Wk.tran (t : Tran B H μ B' H' μ') (h : Wk B H μ w J) : Wk B' H' μ' w J := by
  cases h with
  | tup r => rw [← t.k]; exact .tup (Rep.tran t _ _ r)
  | lst i r => rw [← t.k]; exact .lst i (Rep.tran t _ _ r)
  | str s => exact .str s
  | rang i j => exact .rang i j
  | enum i r => rw [← t.k]; exact .enum i (Rep.tran t _ _ r)
  | zipT r s => rw [← t.k]; exact .zipT (Rep.tran t _ _ r) (Rep.tran t _ _ s)
  | zipL i r j s => rw [← t.k]; exact .zipL i (Rep.tran t _ _ r) j (Rep.tran t _ _ s)
theorem lst_at {d : D} {xs : List D} {ats more : List (Nat × List D)} {a : Addr} (i : IsL d xs ats) (r : Rep B H μ d (.ref a)) (S : StOk B H μ st) (g : guardL st (ats ++ more) = true) : ∃ vs, SqL B.K H a vs ∧ Reps B H μ xs vs ∧ guardL st more = true := by
  rcases i with ⟨rfl, rfl⟩ | ⟨rfl, rfl⟩ | ⟨n, rfl, rfl⟩
  · obtain ⟨p, vs, h1, h2, h3⟩ := lro_rep (st := st) (xs := xs) S rfl r
    cases h1
    exact ⟨vs, h2, h3, g⟩
  · obtain ⟨p, vs, h1, h2, h3⟩ := lro_rep (st := st) (xs := xs) S rfl r
    cases h1
    exact ⟨vs, h2, h3, g⟩
  · obtain ⟨p, h1, h⟩ := r
    cases h1
    simp only [List.singleton_append, guardL, Bool.and_eq_true] at g
    obtain ⟨g1, g2⟩ := g
    split at g1
    · rename_i ys q
      have e := sameAll_eq _ _ g1
      subst e
      obtain ⟨a', h', c⟩ := S.of q
      rw [h] at h'; cases h'
      obtain ⟨vs, h2, h3⟩ := c
      exact ⟨vs, SqL.of h2, h3, g2⟩
    · cases g1
theorem rng_length (i j : Int) : (rng i j).length = (j - i).toNat := by unfold rng; rw [List.length_map, List.length_range]
theorem rng_at {i j : Int} {n : Nat} (h : n < (j - i).toNat) : (rng i j)[n]? = some (.int (i + (n : Int))) := by
  unfold rng
  rw [List.getElem?_map, List.getElem?_range h]; rfl
theorem enumL_length : ∀ (k : Nat) (xs : List D), (enumL k xs).length = xs.length
  | _, [] => rfl
  | k, x :: xs => by rw [enumL, List.length_cons, List.length_cons, enumL_length]
theorem enumL_at : ∀ (k : Nat) (xs : List D) (i : Nat), (enumL k xs)[i]? = xs[i]?.map fun d => .tup [.int ((k + i : Nat) : Int), d]
  | _, [], i => by simp [enumL]
  | k, x :: xs, 0 => by simp [enumL]
  | k, x :: xs, i + 1 => by
    rw [enumL, List.getElem?_cons_succ, List.getElem?_cons_succ, enumL_at (k + 1) xs i]
    congr 1
    funext d
    rw [show k + 1 + i = k + (i + 1) by omega]
theorem zipL_length : ∀ (xs ys : List D), (zipL xs ys).length = min xs.length ys.length
  | [], ys => by simp [zipL]
  | x :: xs, [] => by simp [zipL]
  | x :: xs, y :: ys => by
    rw [zipL, List.length_cons, List.length_cons, List.length_cons, zipL_length]; omega
theorem zipL_at : ∀ (xs ys : List D) (i : Nat) (x y : D), xs[i]? = some x → ys[i]? = some y → (zipL xs ys)[i]? = some (.tup [x, y])
  | [], _, i, _, _, h, _ => by simp at h
  | _ :: _, [], i, _, _, _, h => by simp at h
  | x :: xs, y :: ys, 0, _, _, h, h' => by simp at h h'; subst h h'; simp [zipL]
  | x :: xs, y :: ys, i + 1, a, b, h, h' => by
    rw [zipL, List.getElem?_cons_succ]
    exact zipL_at xs ys i a b (by simpa using h) (by simpa using h')
theorem pair_new (S : StOk B H μ st) {T : Addr} {d f : D} {x y : V} (h : H T = none) (r : Rep B H μ d x) (s : Rep B H μ f y) :
    Later H μ (upd H T (.tup [x, y])) μ ∧ StOk B (upd H T (.tup [x, y])) μ st ∧ Rep B (upd H T (.tup [x, y])) μ (.tup [d, f]) (.ref T) :=
  ⟨Later.new h, S.new h, T, _, rfl, .inl ⟨S.fresh h, .inl upd_same⟩, _, _, rfl, Rep.mono (Later.new h) _ _ r, _, _, rfl, Rep.mono (Later.new h) _ _ s, rfl⟩
theorem get_len {xs : List D} {vs : List V} (r : Reps B H μ xs vs) {i : Nat} (h : i < xs.length) : ∃ d v, xs[i]? = some d ∧ vs[i]? = some v ∧ Rep B H μ d v := by
  obtain ⟨v, h1, h2⟩ := r.get (List.getElem?_eq_getElem h)
  exact ⟨_, v, List.getElem?_eq_getElem h, h1, h2⟩
/-- a turn -/
theorem Wk.turn (h : Wk B H μ w J) (S : StOk B H μ st) (g : guard w st = true) : (∀ i, i < w.xs.length → J.go i H) ∧ J.stop w.xs.length H ∧
    ∀ i x H2, i < w.xs.length → J.yld i H x H2 → ∃ d, w.xs[i]? = some d ∧ Later H μ H2 μ ∧ StOk B H2 μ st ∧ Rep B H2 μ d x := by
  unfold guard at g
  cases h with
  | @tup xs a r =>
    obtain ⟨p, vs, e, hs, r2⟩ := sqT_of r
    cases e
    have W := walk_tup (K := B.K) (a := a) (xs := vs)
    have n : vs.length = xs.length := r2.length
    refine ⟨fun i hi => W.goes i H (by rw [n]; exact hi) hs, by show (Itt B.K a).stop xs.length H; rw [← n]; exact W.stops H hs, fun i x H2 hi y => ?_⟩
    obtain ⟨e, hx⟩ := W.yields i H x H2 (by rw [n]; exact hi) hs y
    subst e
    obtain ⟨d, v, h1, h2, h3⟩ := get_len r2 hi
    rw [hx] at h2; cases h2
    exact ⟨d, h1, Later.refl, S, h3⟩
  | @lst d xs ats a i r =>
    obtain ⟨vs, hs, r2, _⟩ := lst_at (more := []) i r S (by rw [List.append_nil]; exact g)
    have W := walk_list (K := B.K) (a := a) (xs := vs)
    have n : vs.length = xs.length := r2.length
    refine ⟨fun i hi => W.goes i H (by rw [n]; exact hi) hs, by show (Itl B.K a).stop xs.length H; rw [← n]; exact W.stops H hs, fun i x H2 hi y => ?_⟩
    obtain ⟨e, hx⟩ := W.yields i H x H2 (by rw [n]; exact hi) hs y
    subst e
    obtain ⟨d, v, h1, h2, h3⟩ := get_len r2 hi
    rw [hx] at h2; cases h2
    exact ⟨d, h1, Later.refl, S, h3⟩
  | str s =>
    have W := walk_str (z := Str.ofString s)
    have n : (Str.ofString s).cps.size = (s.toList.map fun c => D.str (String.ofList [c])).length := by
      rw [← Array.length_toList, cps_s, List.length_map, List.length_map]
    refine ⟨fun i hi => W.goes i H (by rw [n]; exact hi) trivial, by show (Its _).stop (List.length _) H; rw [← n]; exact W.stops H trivial, fun i x H2 hi y => ?_⟩
    obtain ⟨e, c, hc, hx⟩ := W.yields i H x H2 (by rw [n]; exact hi) trivial y
    subst e hx
    rw [← Array.getElem?_toList, cps_s, List.getElem?_map] at hc
    cases q : s.toList[i]? with
    | none => rw [q] at hc; cases hc
    | some k =>
      rw [q] at hc; cases hc
      refine ⟨.str (String.ofList [k]), ?_, Later.refl, S, ?_⟩
      · show (s.toList.map _)[i]? = _
        rw [List.getElem?_map, q]; rfl
      · show _ = _
        rw [sign_s]
  | rang lo hi =>
    have W := walk_range (lo := lo) (n := (hi - lo).toNat)
    refine ⟨fun i h => W.goes i H (by rw [rng_length] at h; exact h) trivial, by show (Itr _ _).stop (rng lo hi).length H; rw [rng_length]; exact W.stops H trivial, fun i x H2 h y => ?_⟩
    rw [rng_length] at h
    obtain ⟨e, hx⟩ := W.yields i H x H2 h trivial y
    subst e hx
    exact ⟨_, rng_at h, Later.refl, S, rfl⟩
  | @enum d xs ats a i r =>
    obtain ⟨vs, hs, r2, _⟩ := lst_at (more := []) i r S (by rw [List.append_nil]; exact g)
    have W := walk_enum (K := B.K) (a := a) (xs := vs)
    have n : vs.length = xs.length := r2.length
    refine ⟨fun i hi => W.goes i H (by rw [enumL_length] at hi; rw [n]; exact hi) hs, by show (Ite B.K a).stop (enumL 0 xs).length H; rw [enumL_length, ← n]; exact W.stops H hs, fun i x H2 hi y => ?_⟩
    rw [enumL_length] at hi
    obtain ⟨T, u, v, rfl, hT, rfl, h1, h2⟩ := W.yields i H x H2 (by rw [n]; exact hi) hs y
    obtain ⟨d, v', h3, h4, h5⟩ := get_len r2 hi
    have h2 : vs[i]? = some v := h2
    rw [h2] at h4; cases h4
    cases h1
    obtain ⟨q1, q2, q3⟩ := pair_new (d := .int (i : Nat)) S hT rfl h5
    refine ⟨_, ?_, q1, q2, q3⟩
    rw [enumL_at, h3]
    simp
  | @zipT xs ys a b r s =>
    obtain ⟨p, vs, e, hs, r2⟩ := sqT_of r
    cases e
    obtain ⟨p, ws, e, hs', r2'⟩ := sqT_of s
    cases e
    have n : vs.length = xs.length := r2.length
    have n' : ws.length = ys.length := r2'.length
    refine ⟨fun i hi => ?_, ?_, fun i x H2 hi y => ?_⟩
    · rw [zipL_length] at hi
      obtain ⟨_, v, _, h1, _⟩ := get_len r2 (show i < xs.length by omega)
      obtain ⟨_, v', _, h1', _⟩ := get_len r2' (show i < ys.length by omega)
      exact ⟨vs, ws, v, v', hs, hs', h1, h1'⟩
    · rw [zipL_length]
      exact ⟨vs, ws, hs, hs', by omega⟩
    · rw [zipL_length] at hi
      obtain ⟨T, u, z, rfl, hT, rfl, h1, h2⟩ := y
      obtain ⟨d, v, h3, h4, h5⟩ := get_len r2 (show i < xs.length by omega)
      obtain ⟨d', v', h3', h4', h5'⟩ := get_len r2' (show i < ys.length by omega)
      have k1 := h1 vs hs
      have k2 := h2 ws hs'
      rw [k1] at h4; cases h4
      rw [k2] at h4'; cases h4'
      obtain ⟨q1, q2, q3⟩ := pair_new S hT h5 h5'
      exact ⟨_, zipL_at _ _ _ _ _ h3 h3', q1, q2, q3⟩
  | @zipL d f xs ys us vs' a b i r j s =>
    obtain ⟨vs, hs, r2, g2⟩ := lst_at i r S g
    obtain ⟨ws, hs', r2', _⟩ := lst_at (more := []) j s S (by rw [List.append_nil]; exact g2)
    have n : vs.length = xs.length := r2.length
    have n' : ws.length = ys.length := r2'.length
    refine ⟨fun i hi => ?_, ?_, fun i x H2 hi y => ?_⟩
    · rw [zipL_length] at hi
      obtain ⟨_, v, _, h1, _⟩ := get_len r2 (show i < xs.length by omega)
      obtain ⟨_, v', _, h1', _⟩ := get_len r2' (show i < ys.length by omega)
      exact ⟨vs, ws, v, v', hs, hs', h1, h1'⟩
    · rw [zipL_length]
      exact ⟨vs, ws, hs, hs', by omega⟩
    · rw [zipL_length] at hi
      obtain ⟨T, u, z, rfl, hT, rfl, h1, h2⟩ := y
      obtain ⟨d, v, h3, h4, h5⟩ := get_len r2 (show i < xs.length by omega)
      obtain ⟨d', v', h3', h4', h5'⟩ := get_len r2' (show i < ys.length by omega)
      have k1 := h1 vs hs
      have k2 := h2 ws hs'
      rw [k1] at h4; cases h4
      rw [k2] at h4'; cases h4'
      obtain ⟨q1, q2, q3⟩ := pair_new S hT h5 h5'
      exact ⟨_, zipL_at _ _ _ _ _ h3 h3', q1, q2, q3⟩
end
end Rx

set_option Elab.async false
set_option linter.all false
set_option maxRecDepth 100000
set_option maxHeartbeats 400000
set_option autoImplicit false
namespace Rx
open PySem L2 TL

section
variable {T : Tab} {C : CallF} {k : Nat} {X : Cx} {e e1 e2 e3 : Expr} {a b c : E} {pos : Pos}
/-! ### comparisons -/
theorem pe_cm {o : Co} {r : R2} (ho : OpR X (compareOp (coOp o)) r)
    (hr : ∀ {B : Bg} {H : Hp} {μ : List Addr} {st : Store} {a b : D} {x y : V} {k : Bool} {Q : VK}, B.K = X.K → StOk B H μ st → Rep B H μ a x → Rep B H μ b y → cmpV o a b st = some k → Q (.bl k) H → r x y H Q)
    (hm : behindInMarks (coOp o) e2 = false) (ha : PE X e1 (tE X.K C a)) (hb : PE X e2 (tE X.K C b)) :
    Snd X C false (.cmp o a b) (.Compare e1 [coOp o] [e2] pos) ∧ Snd X C true (.cmp o a b) (.Compare e1 [coOp o] [e2] pos) := by
  have h1 : PE X (.Compare e1 [coOp o] [e2] pos) (tE X.K C (.cmp o a b)) := by
    refine PE.imp (pe_cmpR ho ha hb hm) fun σ H Q ⟨B, μ, ρ, st, hB, N, W⟩ => ?_
    simp only [evE] at W
    refine go (R := repD) (fun ρ st => evE C ρ a st) hB N W fun μ1 st1 d x H1 L N1 ra W => ?_
    refine go (R := repD) (fun ρ st => evE C ρ b st) hB N1 W fun μ2 st2 d2 y H2 L2 N2 rb W => ?_
    obtain ⟨z, e, q⟩ := Wd.ofB N2.st W
    exact hr hB N2.st (Rep.mono L2 _ _ ra) rb e q
  have h2 : PT X (.Compare e1 [coOp o] [e2] pos) (tT X.K C (.cmp o a b)) := by
    refine PT.imp (pt_cmpR ho ha hb hm) fun σ H Q ⟨B, μ, ρ, st, hB, N, W⟩ => ?_
    simp only [evE] at W
    have W2 : Wd B H μ repB ((evE C ρ a st).bind fun x st => (evE C ρ b st).bind fun y st => (Res.of ((cmpV o x y st).map D.bl) st).bind boolOf) Q := by
      cases h1 : evE C ρ a st with
      | no => rw [h1] at W; exact W.not.elim
      | ok d st1 =>
        rw [h1] at W
        simp only [Res.bind] at W ⊢
        cases h2 : evE C ρ b st1 with
        | no => rw [h2] at W; exact W.not.elim
        | ok d st1 => rw [h2] at W; exact W
    refine go (R := repD) (fun ρ st => evE C ρ a st) hB N W2 fun μ1 st1 d x H1 L N1 ra W => ?_
    refine go (R := repD) (fun ρ st => evE C ρ b st) hB N1 W fun μ2 st2 d2 y H2 L2 N2 rb W => ?_
    cases hz : cmpV o d d2 st2 with
    | none => rw [hz] at W; exact W.not.elim
    | some z =>
      rw [hz] at W
      exact hr hB N2.st (Rep.mono L2 _ _ ra) rb hz ⟨z, rfl, W.here N2.st rfl⟩
  exact ⟨⟨fun _ => h1, nofun⟩, ⟨nofun, fun _ => h2⟩⟩
theorem snd_both {c : E} (h : Snd X C false c e ∧ Snd X C true c e) : ∀ t, Snd X C t c e
  | false => h.1
  | true => h.2
/-- a comparison's rule -/
def coR (K : PySem.W.Frag) : Co → R2
  | .eq => rEqX K
  | .ne => rNeX K
  | .isin => rInX K false
  | .notin => rInX K true
  | .is => rIsX false
  | .isnot => rIsX true
  | .lt => rI0 fun i j => .bl (decide (i < j))
  | .le => rI0 fun i j => .bl (decide (i ≤ j))
  | .gt => rI0 fun i j => .bl (decide (j < i))
  | .ge => rI0 fun i j => .bl (decide (j ≤ i))
theorem op_co (G : Good T C k X) (o : Co) : OpR X (compareOp (coOp o)) (coR X.K o) := by
  cases o with
  | eq => exact op_eqX G.u
  | ne => exact op_neX G.u
  | isin => exact op_inX G.u
  | notin => exact op_notInX G.u
  | is => exact op_isX
  | isnot => exact op_isNotX
  | lt => exact op_lt
  | le => exact op_le
  | gt => exact op_gt
  | ge => exact op_ge
theorem co_ok (o : Co) {B : Bg} {H : Hp} {μ : List Addr} {st : Store} {a b : D} {x y : V} {k : Bool} {Q : VK} (S : StOk B H μ st) (ra : Rep B H μ a x) (rb : Rep B H μ b y) (e : cmpV o a b st = some k) (q : Q (.bl k) H) : coR B.K o x y H Q := by
  have ord : (o = .lt ∨ o = .le ∨ o = .gt ∨ o = .ge) → ∃ i j, x = .int i ∧ y = .int j ∧ cmpI o i j = some k := fun h => ord_ok h ra rb e
  cases o with
  | eq => exact eq_ok S ra rb e q
  | ne => exact ne_ok S ra rb e q
  | isin => exact inn_ok (neg := false) S ra rb e q
  | notin => exact inn_ok (neg := true) S ra rb e q
  | is => exact is_ok (neg := false) ra rb e q
  | isnot => exact is_ok (neg := true) ra rb e q
  | lt => obtain ⟨i, j, h1, h2, h3⟩ := ord (by decide); cases h3; exact ⟨i, j, h1, h2, q⟩
  | le => obtain ⟨i, j, h1, h2, h3⟩ := ord (by decide); cases h3; exact ⟨i, j, h1, h2, q⟩
  | gt => obtain ⟨i, j, h1, h2, h3⟩ := ord (by decide); cases h3; exact ⟨i, j, h1, h2, q⟩
  | ge => obtain ⟨i, j, h1, h2, h3⟩ := ord (by decide); cases h3; exact ⟨i, j, h1, h2, q⟩
theorem snd_cmp (G : Good T C k X) {o : Co} {t : Bool} (hs : notSet e2 = true) (ha : PE X e1 (tE X.K C a)) (hb : PE X e2 (tE X.K C b)) : Snd X C t (.cmp o a b) (.Compare e1 [coOp o] [e2] pos) :=
  snd_both (pe_cm (op_co G o) (fun hB S ra rb e q => hB ▸ co_ok o S ra rb e q) (mark_of _ hs) ha hb) t
theorem bind_assoc {α β γ : Type} (r : Rx.Res α) (f : α → Store → Rx.Res β) (g : β → Store → Rx.Res γ) : (r.bind f).bind g = r.bind fun a st => (f a st).bind g := by
  cases r <;> rfl
theorem snd_chn (G : Good T C k X) {o p : Co} {t : Bool} (hs : notSet e2 = true) (hs' : notSet e3 = true) (ha : PE X e1 (tE X.K C a)) (hb : PE X e2 (tE X.K C b)) (hc : PE X e3 (tE X.K C c)) :
    Snd X C t (.chn o p a b c) (.Compare e1 [coOp o, coOp p] [e2, e3] pos) := by
  have hm : lastMarks [coOp o, coOp p] [e2, e3] = false := mark_of _ hs'
  have main : ∀ {B : Bg} {H : Hp} {μ : List Addr} {ρ : Slots} {σ : L2.St} {st : Store} {Q : VK}, B.K = X.K → Now B H μ ρ σ st → Wd B H μ repD (evE C ρ (.chn o p a b c) st) Q →
      tChain (coR X.K o) (coR X.K p) (tE X.K C a) (tE X.K C b) (tE X.K C c) σ H Q := by
    intro B H μ ρ σ st Q hB N W
    rw [← hB]
    simp only [evE] at W
    refine go (R := repD) (fun ρ st => evE C ρ a st) rfl N W fun μ1 st1 d x H1 L N1 ra W => ?_
    refine go (R := repD) (fun ρ st => evE C ρ b st) rfl N1 W fun μ2 st2 d2 y H2 L2 N2 rb W => ?_
    split at W
    · rename_i e
      refine co_ok o N2.st (Rep.mono L2 _ _ ra) rb e ⟨true, rfl, ?_⟩
      refine iteT ?_
      refine go (R := repD) (fun ρ st => evE C ρ c st) rfl N2 W fun μ3 st3 d3 z H3 L3 N3 rc W => ?_
      obtain ⟨z, e, q⟩ := Wd.ofB N3.st W
      exact co_ok p N3.st (Rep.mono L3 _ _ rb) rc e q
    · rename_i e
      refine co_ok o N2.st (Rep.mono L2 _ _ ra) rb e ⟨false, rfl, ?_⟩
      exact iteF (W.here N2.st rfl)
    · exact W.not.elim
  refine ⟨fun _ => PE.imp (pe_chain (op_co G o) (op_co G p) ha hb hc hm) fun σ H Q ⟨B, μ, ρ, st, hB, N, W⟩ => main hB N W, fun _ => PT.imp (pt_chain (op_co G o) (op_co G p) ha hb hc hm) fun σ H Q ⟨B, μ, ρ, st, hB, N, W⟩ => ?_⟩
  have W2 : Wd B H μ repD (evE C ρ (.chn o p a b c) st) (fun x H' => ∃ k, x = .bl k ∧ Q k H') := by
    obtain ⟨b', st', e, kk⟩ := W
    have e : (evE C ρ (.chn o p a b c) st).bind boolOf = .ok b' st' := e
    cases hz : evE C ρ (.chn o p a b c) st with
    | no => rw [hz] at e; cases e
    | ok d st1 =>
      rw [hz] at e
      have e : boolOf d st1 = .ok b' st' := e
      unfold boolOf at e
      split at e
      · cases e
        exact ⟨_, _, rfl, fun v H' μ' L S r => ⟨_, r, kk _ H' μ' L S rfl⟩⟩
      · cases e
  exact main hB N W2
theorem snd_tru {t : Bool} (ht : t = true) (hp : plainT e = true) (ha : PE X e (tE X.K C a)) : Snd X C t (.tru a) e := by
  subst ht
  refine ⟨nofun, fun _ => PT.imp (pt_truth ha (test_of hp)) fun σ H Q ⟨B, μ, ρ, st, hB, N, W⟩ => ?_⟩
  simp only [evE, bind_assoc] at W
  refine go (R := repD) (fun ρ st => evE C ρ a st) hB N W fun μ1 st1 d x H1 L N1 r W => ?_
  cases hz : truD st1 d with
  | none => rw [hz] at W; exact W.not.elim
  | some z =>
    rw [hz] at W
    refine ⟨z, ?_, W.here N1.st rfl⟩
    cases d <;> simp only [truD] at hz <;> first
      | (cases hz; done)
      | (cases hz; cases r; exact rfl)
theorem Wd.eq {α β : Type} {R : RR α β} {B : Bg} {H : Hp} {μ : List Addr} {r r' : Rx.Res α} {Q : β → Hp → Prop} (h : r = r') (W : Wd B H μ R r Q) : Wd B H μ R r' Q := h ▸ W
/-! ### and, or -/
theorem and_nil {t : TE} {op : BoolOp} {vs : List Expr} (h : ∀ σ H Q, ¬ t σ H Q) : PE X (.BoolOp op vs pos) t := ⟨fun pins s σ H Q I w => (h σ H Q w).elim⟩
def tAnd' (K : PySem.W.Frag) (C : CallF) (es : Es) : TE := tR K repD fun ρ st => evAnd C ρ es st
def tOr' (K : PySem.W.Frag) (C : CallF) (es : Es) : TE := tR K repD fun ρ st => evOr C ρ es st
def tAndB (K : PySem.W.Frag) (C : CallF) (es : Es) : TT := tR K repB fun ρ st => (evAnd C ρ es st).bind boolOf
def tOrB (K : PySem.W.Frag) (C : CallF) (es : Es) : TT := tR K repB fun ρ st => (evOr C ρ es st).bind boolOf
theorem ev_and (ρ : Slots) (c d : E) (r : Es) (st : Store) : evAnd C ρ (.cons c (.cons d r)) st = (evE C ρ c st).bind fun x st => (boolOf x st).bind fun b st => if b = true then evAnd C ρ (.cons d r) st else .ok (.bl false) st := by
  simp only [evAnd, bind_assoc]
theorem ev_or (ρ : Slots) (c d : E) (r : Es) (st : Store) : evOr C ρ (.cons c (.cons d r)) st = (evE C ρ c st).bind fun x st => (boolOf x st).bind fun b st => if b = true then .ok (.bl true) st else evOr C ρ (.cons d r) st := by
  simp only [evOr, bind_assoc]
theorem ev_andB (ρ : Slots) (c d : E) (r : Es) (st : Store) : (evAnd C ρ (.cons c (.cons d r)) st).bind boolOf = ((evE C ρ c st).bind boolOf).bind fun b st => (if b = true then evAnd C ρ (.cons d r) st else .ok (.bl false) st).bind boolOf := by
  simp only [evAnd, bind_assoc]
theorem ev_orB (ρ : Slots) (c d : E) (r : Es) (st : Store) : (evOr C ρ (.cons c (.cons d r)) st).bind boolOf = ((evE C ρ c st).bind boolOf).bind fun b st => (if b = true then .ok (.bl true) st else evOr C ρ (.cons d r) st).bind boolOf := by
  simp only [evOr, bind_assoc]
theorem ev_and1 (ρ : Slots) (c : E) (st : Store) : evAnd C ρ (.cons c .nil) st = evE C ρ c st := by simp only [evAnd]
theorem ev_or1 (ρ : Slots) (c : E) (st : Store) : evOr C ρ (.cons c .nil) st = evE C ρ c st := by simp only [evOr]
theorem pe_and1 (h : PE X e (tE X.K C c)) : PE X (.BoolOp .And [e] pos) (tAnd' X.K C (.cons c .nil)) := PE.imp (pe_one h) fun σ H Q ⟨B, μ, ρ, st, hB, N, W⟩ => ⟨B, μ, ρ, st, hB, N, Wd.eq (by simp only [evAnd]) W⟩
theorem pe_or1 (h : PE X e (tE X.K C c)) : PE X (.BoolOp .Or [e] pos) (tOr' X.K C (.cons c .nil)) := PE.imp (pe_one h) fun σ H Q ⟨B, μ, ρ, st, hB, N, W⟩ => ⟨B, μ, ρ, st, hB, N, Wd.eq (by simp only [evOr]) W⟩
theorem pw_and1' (h : PT X e (tT X.K C c)) : PW X (.BoolOp .And [e] pos) (tAndB X.K C (.cons c .nil)) := PW.imp (pw_and1 h) fun σ H Q ⟨B, μ, ρ, st, hB, N, W⟩ => ⟨B, μ, ρ, st, hB, N, Wd.eq (by simp only [evAnd]) W⟩
theorem pw_or1' (h : PT X e (tT X.K C c)) : PW X (.BoolOp .Or [e] pos) (tOrB X.K C (.cons c .nil)) := PW.imp (pw_or1 h) fun σ H Q ⟨B, μ, ρ, st, hB, N, W⟩ => ⟨B, μ, ρ, st, hB, N, Wd.eq (by simp only [evOr]) W⟩
theorem pe_andC {d : E} {r : Es} {f : Expr} {vs : List Expr} (h : PE X e (tE X.K C c)) (hr : PE X (.BoolOp .And (f :: vs) pos) (tAnd' X.K C (.cons d r))) : PE X (.BoolOp .And (e :: f :: vs) pos) (tAnd' X.K C (.cons c (.cons d r))) := by
  refine PE.imp (pe_and h hr) fun σ H Q ⟨B, μ, ρ, st, hB, N, W⟩ => ?_
  replace W := Wd.eq (ev_and ρ c d r st) W
  refine go (R := repD) (fun ρ st => evE C ρ c st) hB N W fun μ1 st1 d x H1 L N1 ra W => ?_
  unfold boolOf at W
  split at W
  · cases ra
    refine ⟨_, rfl, ?_⟩
    simp only [Res.bind] at W
    rename_i b
    cases b with
    | true => exact iteT ⟨B, μ1, ρ, st1, hB, N1, by simpa using W⟩
    | false => exact iteF ((by simpa using W : Wd B H1 μ1 repD (.ok (.bl false) st1) Q).here N1.st rfl)
  · exact W.not.elim
theorem pe_orC {d : E} {r : Es} {f : Expr} {vs : List Expr} (h : PE X e (tE X.K C c)) (hr : PE X (.BoolOp .Or (f :: vs) pos) (tOr' X.K C (.cons d r))) : PE X (.BoolOp .Or (e :: f :: vs) pos) (tOr' X.K C (.cons c (.cons d r))) := by
  refine PE.imp (pe_or h hr) fun σ H Q ⟨B, μ, ρ, st, hB, N, W⟩ => ?_
  replace W := Wd.eq (ev_or ρ c d r st) W
  refine go (R := repD) (fun ρ st => evE C ρ c st) hB N W fun μ1 st1 d x H1 L N1 ra W => ?_
  unfold boolOf at W
  split at W
  · cases ra
    refine ⟨_, rfl, ?_⟩
    simp only [Res.bind] at W
    rename_i b
    cases b with
    | false => exact iteF ⟨B, μ1, ρ, st1, hB, N1, by simpa using W⟩
    | true => exact iteT ((by simpa using W : Wd B H1 μ1 repD (.ok (.bl true) st1) Q).here N1.st rfl)
  · exact W.not.elim
theorem pw_andC {d : E} {r : Es} {f : Expr} {vs : List Expr} (h : PT X e (tT X.K C c)) (hr : PW X (.BoolOp .And (f :: vs) pos) (tAndB X.K C (.cons d r))) : PW X (.BoolOp .And (e :: f :: vs) pos) (tAndB X.K C (.cons c (.cons d r))) := by
  refine PW.imp (pw_and h hr) fun σ H Q ⟨B, μ, ρ, st, hB, N, W⟩ => ?_
  replace W := Wd.eq (ev_andB ρ c d r st) W
  refine go (R := repB) (fun ρ st => (evE C ρ c st).bind boolOf) hB N W fun μ1 st1 d x H1 L N1 ra W => ?_
  cases ra
  cases d with
  | true => exact iteT ⟨B, μ1, ρ, st1, hB, N1, by simpa using W⟩
  | false => exact iteF ((by simpa [boolOf] using W : Wd B H1 μ1 repB (.ok false st1) Q).here N1.st rfl)
theorem pw_orC {d : E} {r : Es} {f : Expr} {vs : List Expr} (h : PT X e (tT X.K C c)) (hr : PW X (.BoolOp .Or (f :: vs) pos) (tOrB X.K C (.cons d r))) : PW X (.BoolOp .Or (e :: f :: vs) pos) (tOrB X.K C (.cons c (.cons d r))) := by
  refine PW.imp (pw_or h hr) fun σ H Q ⟨B, μ, ρ, st, hB, N, W⟩ => ?_
  replace W := Wd.eq (ev_orB ρ c d r st) W
  refine go (R := repB) (fun ρ st => (evE C ρ c st).bind boolOf) hB N W fun μ1 st1 d x H1 L N1 ra W => ?_
  cases ra
  cases d with
  | false => exact iteF ⟨B, μ1, ρ, st1, hB, N1, by simpa using W⟩
  | true => exact iteT ((by simpa [boolOf] using W : Wd B H1 μ1 repB (.ok true st1) Q).here N1.st rfl)
theorem snd_ite {t : Bool} (ht : t = false) (hc : PT X e1 (tT X.K C c)) (ha : PE X e2 (tE X.K C a)) (hb : PE X e3 (tE X.K C b)) : Snd X C t (.ite c a b) (.IfExp e1 e2 e3 pos) := by
  subst ht
  refine ⟨fun _ => PE.imp (pe_ifExp hc ha hb) fun σ H Q ⟨B, μ, ρ, st, hB, N, W⟩ => ?_, nofun⟩
  simp only [evE] at W
  refine go (R := repB) (fun ρ st => (evE C ρ c st).bind boolOf) hB N W fun μ1 st1 d x H1 L N1 ra W => ?_
  cases ra
  cases d with
  | true => exact iteT ⟨B, μ1, ρ, st1, hB, N1, by simpa using W⟩
  | false => exact iteF ⟨B, μ1, ρ, st1, hB, N1, by simpa using W⟩
/-! ### displays -/
theorem pa_nil' : PA X [] (tEs X.K C .nil) := PA.imp pa_nil fun σ H Q ⟨B, μ, ρ, st, hB, N, W⟩ => by
  simp only [evEs] at W
  exact W.here N.st rfl
theorem pa_cons' {es : List Expr} {cs : Es} (hs : notStar e = true) (h : PE X e (tE X.K C c)) (hr : PA X es (tEs X.K C cs)) : PA X (e :: es) (tEs X.K C (.cons c cs)) := by
  refine PA.imp (pa_cons h hr (star_of hs)) fun σ H Q ⟨B, μ, ρ, st, hB, N, W⟩ => ?_
  simp only [evEs] at W
  refine go (R := repD) (fun ρ st => evE C ρ c st) hB N W fun μ1 st1 d x H1 L N1 ra W => ?_
  refine go (R := repDs) (fun ρ st => evEs C ρ cs st) hB N1 W fun μ2 st2 ds xs H2 L2 N2 rb W => ?_
  exact W.here N2.st ⟨x, xs, rfl, Rep.mono L2 _ _ ra, rb⟩
theorem snd_tup {t : Bool} {es : List Expr} {cs : Es} {j : Nat} (h : PA X es (tEs X.K C cs)) : Snd X C t (.tup cs) (.Tuple es j pos) := by
  refine Snd.plain rfl (PE.imp (pe_tup h) fun σ H Q ⟨B, μ, ρ, st, hB, N, W⟩ => ?_)
  simp only [evE] at W
  refine go (R := repDs) (fun ρ st => evEs C ρ cs st) hB N W fun μ2 st2 ds xs H2 L2 N2 rb W => ?_
  split at W
  · rename_i hl
    exact ⟨by rw [rb.length, line_eq]; exact hl, tup_ok N2.st rb W⟩
  · exact W.not.elim
theorem snd_lst {t m : Bool} {es : List Expr} {cs : Es} (h : PA X es (tEs X.K C cs)) : Snd X C t (.lst m cs) (.List es pos) := by
  refine Snd.plain rfl (PE.imp (pe_lst h) fun σ H Q ⟨B, μ, ρ, st, hB, N, W⟩ => ?_)
  simp only [evE] at W
  refine go (R := repDs) (fun ρ st => evEs C ρ cs st) hB N W fun μ2 st2 ds xs H2 L2 N2 rb W => ?_
  split at W
  · rename_i hl
    exact ⟨by rw [rb.length, line_eq]; exact hl, newL_ok N2.st rb W⟩
  · exact W.not.elim
theorem snd_ix {t : Bool} (hs : notSlice e2 = true) (ha : PE X e1 (tE X.K C a)) (hb : PE X e2 (tE X.K C b)) : Snd X C t (.ix a b) (.Subscript e1 e2 pos) := by
  refine Snd.plain rfl (PE.imp (pe_ix ix_seq ha hb (ix_of hs)) fun σ H Q ⟨B, μ, ρ, st, hB, N, W⟩ => ?_)
  simp only [evE] at W
  refine go (R := repD) (fun ρ st => evE C ρ a st) hB N W fun μ1 st1 d x H1 L N1 ra W => ?_
  refine go (R := repD) (fun ρ st => evE C ρ b st) hB N1 W fun μ2 st2 d2 y H2 L2 N2 rb W => ?_
  exact hB ▸ ix_ok N2.st (Rep.mono L2 _ _ ra) rb W
def tO (K : PySem.W.Frag) (C : CallF) (c : Oe) : TO := tR K repO fun ρ st => evO C ρ c st
theorem PO.imp {e : Option Expr} {t t' : TO} (h : PO X e t) (i : ∀ σ H Q, t' σ H Q → t σ H Q) : PO X e t' := ⟨fun pins s σ H Q I w => h.run pins s σ H Q I (i _ _ _ w)⟩
theorem po_none' : PO X none (tO X.K C .non) := PO.imp po_none fun σ H Q ⟨B, μ, ρ, st, hB, N, W⟩ => by
  simp only [evO] at W
  exact W.here N.st rfl
theorem po_some' (h : PE X e (tE X.K C c)) : PO X (some e) (tO X.K C (.som c)) := PO.imp (po_some h) fun σ H Q ⟨B, μ, ρ, st, hB, N, W⟩ => by
  simp only [evO] at W
  refine go (R := repD) (fun ρ st => evE C ρ c st) hB N W fun μ1 st1 d x H1 L N1 ra W => ?_
  split at W
  · cases ra
    exact ⟨_, rfl, W.here N1.st rfl⟩
  · exact W.not.elim
theorem snd_sl {t m : Bool} {lo hi : Oe} {l h : Option Expr} {p : Pos} (ha : PE X e1 (tE X.K C a)) (hl : PO X l (tO X.K C lo)) (hh : PO X h (tO X.K C hi)) : Snd X C t (.sl m a lo hi) (.Subscript e1 (.Slice l h none p) pos) := by
  refine Snd.plain rfl (PE.imp (pe_slice sl_X ha hl hh) fun σ H Q ⟨B, μ, ρ, st, hB, N, W⟩ => ?_)
  simp only [evE] at W
  refine go (R := repD) (fun ρ st => evE C ρ a st) hB N W fun μ1 st1 d x H1 L N1 ra W => ?_
  refine go (R := repO) (fun ρ st => evO C ρ lo st) hB N1 W fun μ2 st2 d2 y H2 L2 N2 rb W => ?_
  refine go (R := repO) (fun ρ st => evO C ρ hi st) hB N2 W fun μ3 st3 d3 z H3 L3 N3 rc W => ?_
  cases rb; cases rc
  exact hB ▸ sl_ok N3.st (Rep.mono (L2.trans L3) _ _ ra) W
end
end Rx

set_option Elab.async false
set_option linter.all false
set_option maxRecDepth 100000
set_option maxHeartbeats 400000
set_option autoImplicit false
namespace Rx
open PySem L2 TL

/-! ### targets -/
def gNs : List Nat → TGs
  | [] => gNil
  | i :: is => gCons (gName i) (gNs is)
def gR (K : PySem.W.Frag) : Tg → TG
  | .nm i => gName i
  | .tu is => gTup K is.length (gNs is)
section
variable {X : Cx}
theorem pgs_of {sc2 : Scope} (hN : X.N.Nodup) (hf : ∀ x, locB sc2 x = true → X.fn x = true ∨ X.env.scope.names.lookup x = some .local) :
    ∀ (is : List Nat) (es : List Expr), tgB.tgsB X.N X.env.scope is es = true → tgB.tgsB X.N sc2 is es = true → PGs X es (gNs is)
  | [], [], _, _ => pgs_nil
  | [], _ :: _, h, _ => by cases h
  | _ :: _, [], h, _ => by cases h
  | i :: is, e :: es, h, h2 => by
    cases e <;> first | (cases h; done) | skip
    simp only [tgB.tgsB, Bool.and_eq_true, decide_eq_true_eq] at h h2
    exact pgs_cons (pg_name hN h.1.1 (loc_of h.1.2) (hf _ h2.1.2)) (pgs_of hN hf is es h.2 h2.2)
theorem tgs_len {N : List Str} {sc : Scope} : ∀ (is : List Nat) (es : List Expr), tgB.tgsB N sc is es = true → es.length = is.length
  | [], [], _ => rfl
  | [], _ :: _, h => by cases h
  | _ :: _, [], h => by cases h
  | i :: is, e :: es, h => by
    cases e <;> first | (cases h; done) | skip
    simp only [tgB.tgsB, Bool.and_eq_true] at h
    rw [List.length_cons, List.length_cons, tgs_len is es h.2]
theorem names_shape {N : List Str} {sc : Scope} : ∀ (is : List Nat) (es : List Expr), tgB.tgsB N sc is es = true → ∀ e ∈ es, ∃ x p, e = .Name x p
  | [], [], _ => by simp
  | [], _ :: _, h => by cases h
  | _ :: _, [], h => by cases h
  | i :: is, e :: es, h => by
    cases e <;> first | (cases h; done) | skip
    simp only [tgB.tgsB, Bool.and_eq_true] at h
    intro f hf
    rcases List.mem_cons.mp hf with z | z
    · exact ⟨_, _, z⟩
    · exact names_shape is es h.2 f z
theorem each_names {env : PySem.Env} : ∀ es : List Expr, (∀ e ∈ es, ∃ x p, e = .Name x p) → assignEach es env = es.map fun e => (false, assign e env)
  | [], _ => by simp [assignEach]
  | e :: es, h => by
    obtain ⟨x, p, rfl⟩ := h e List.mem_cons_self
    have ih := each_names (env := env) es fun f hf => h f (List.mem_cons_of_mem _ hf)
    simp only [assignEach, ih, List.map_cons]
theorem pg_of {sc2 : Scope} {t : Tg} {e : Expr} (hN : X.N.Nodup) (hc : X.calm = true) (hf : ∀ x, locB sc2 x = true → X.fn x = true ∨ X.env.scope.names.lookup x = some .local) (h : tgB X.N X.env.scope t e = true) (h2 : tgB X.N sc2 t e = true) :
    PG X e (gR X.K t) := by
  cases t with
  | nm i =>
    cases e <;> first | (cases h; done) | skip
    simp only [tgB, Bool.and_eq_true, decide_eq_true_eq] at h h2
    exact pg_name hN h.1 (loc_of h.2) (hf _ h2.2)
  | tu is =>
    cases e <;> first | (cases h; done) | skip
    rename_i es j p
    have hl := tgs_len is es h
    show PG X _ (gTup X.K is.length (gNs is))
    rw [← hl]
    have he := each_names (env := X.env) es (names_shape is es h)
    refine pg_tup hc (pgs_of hN hf is es h h2) (by rw [he, List.length_map]) (by rw [he, List.findIdx?_map]; simp)
/-! ### slots -/
theorem wipeD_length : ∀ (ρ : Slots) (vs : List Nat), (wipeD ρ vs).length = ρ.length
  | _, [] => rfl
  | ρ, v :: vs => by rw [wipeD, List.length_set, wipeD_length ρ vs]
theorem wipeD_some {ρ : Slots} {i : Nat} {d : D} : ∀ {vs : List Nat}, (wipeD ρ vs)[i]? = some (some d) → ρ[i]? = some (some d) ∧ i ∉ vs
  | [], h => ⟨h, by simp⟩
  | v :: vs, h => by
    unfold wipeD at h
    by_cases hi : v = i
    · subst hi
      by_cases hv : v < (wipeD ρ vs).length
      · rw [List.getElem?_set_self hv] at h; cases h
      · rw [List.getElem?_eq_none (by simpa using hv)] at h; cases h
    · rw [List.getElem?_set_ne hi] at h
      obtain ⟨h1, h2⟩ := wipeD_some h
      exact ⟨h1, by simp only [List.mem_cons, not_or]; exact ⟨fun e => hi e.symm, h2⟩⟩
theorem wipe_in {σ : L2.St} {i : Nat} : ∀ {vs : List Nat}, i ∈ vs → i < σ.length → (L2.wipe σ vs)[i]? = some none
  | [], h, _ => by simp at h
  | v :: vs, h, hl => by
    unfold L2.wipe
    by_cases hi : v = i
    · subst hi
      rw [List.getElem?_set_self (by rw [L2.wipe_length]; exact hl)]
    · rw [List.getElem?_set_ne hi]
      rcases List.mem_cons.mp h with z | z
      · exact absurd z.symm hi
      · exact wipe_in z hl
theorem wipe_eq {σ σ2 : L2.St} {vs : List Nat} (hl : σ2.length = σ.length) (h : ∀ j, j ∉ vs → σ2[j]? = (L2.wipe σ vs)[j]?) : L2.wipe σ2 vs = L2.wipe σ vs := by
  apply List.ext_getElem?
  intro j
  by_cases hj : j ∈ vs
  · by_cases hlt : j < σ.length
    · rw [wipe_in hj hlt, wipe_in hj (by rw [hl]; exact hlt)]
    · rw [List.getElem?_eq_none (by rw [L2.wipe_length]; omega), List.getElem?_eq_none (by rw [L2.wipe_length]; omega)]
  · rw [L2.wipe_out hj, h j hj]
variable {B B' : Bg} {H H' : Hp} {μ μ' : List Addr} {ρ ρ' : Slots} {σ : L2.St} {st st' : Store}
theorem Now.wipe (N : Now B H μ ρ σ st) (vs : List Nat) : Now B H μ (wipeD ρ vs) (L2.wipe σ vs) st := by
  refine ⟨N.st, by rw [wipeD_length, L2.wipe_length]; exact N.len, fun i d e => ?_⟩
  obtain ⟨h1, h2⟩ := wipeD_some e
  obtain ⟨v, h3, h4⟩ := N.sl i d h1
  exact ⟨v, by rw [L2.wipe_out h2]; exact h3, h4⟩
theorem Now.tran (N : Now B H μ ρ σ st) (t : Tran B H μ B' H' μ') (S : StOk B' H' μ' st') : Now B' H' μ' ρ σ st' :=
  ⟨S, N.len, fun i d e => let ⟨v, h1, h2⟩ := N.sl i d e; ⟨v, h1, Rep.tran t d v h2⟩⟩
theorem Now.set (N : Now B H μ ρ σ st) {i : Nat} {d : D} {v : V} (r : Rep B H μ d v) : Now B H μ (ρ.set i (some d)) (σ.set i (some v)) st := by
  refine ⟨N.st, by rw [List.length_set, List.length_set]; exact N.len, fun j f e => ?_⟩
  by_cases hi : i = j
  · subst hi
    by_cases hl : i < ρ.length
    · rw [List.getElem?_set_self hl] at e
      cases e
      exact ⟨v, List.getElem?_set_self (by rw [← N.len]; exact hl), r⟩
    · rw [List.getElem?_eq_none (by rw [List.length_set]; omega)] at e; cases e
  · rw [List.getElem?_set_ne hi] at e
    obtain ⟨w, h1, h2⟩ := N.sl j f e
    exact ⟨w, by rw [List.getElem?_set_ne hi]; exact h1, h2⟩
theorem setAll_ok {Q : L2.St → Hp → Prop} : ∀ {is : List Nat} {ds : List D} {vs : List V} {ρ ρ' : Slots} {σ : L2.St}, setAll ρ is ds = some ρ' → Reps B H μ ds vs → Now B H μ ρ σ st →
    (∀ σ', Now B H μ ρ' σ' st → (∀ j, j ∉ is → σ'[j]? = σ[j]?) → Q σ' H) → gNs is vs σ H Q
  | [], [], vs, ρ, ρ', σ, e, r, N, k => by
    cases e; cases r
    exact ⟨rfl, k σ N fun _ _ => rfl⟩
  | [], _ :: _, _, _, _, _, e, _, _, _ => by cases e
  | _ :: _, [], _, _, _, _, e, _, _, _ => by cases e
  | i :: is, d :: ds, vs, ρ, ρ', σ, e, r, N, k => by
    obtain ⟨v, vs, rfl, r1, r2⟩ := r
    refine ⟨v, vs, rfl, ?_⟩
    refine setAll_ok (is := is) e r2 (N.set r1) fun σ' N' h => k σ' N' fun j hj => ?_
    simp only [List.mem_cons, not_or] at hj
    rw [h j hj.2, List.getElem?_set_ne (fun z => hj.1 z.symm)]
theorem setAll_len : ∀ {is : List Nat} {ds : List D} {ρ ρ' : Slots}, setAll ρ is ds = some ρ' → ρ'.length = ρ.length
  | [], [], _, _, e => by cases e; rfl
  | [], _ :: _, _, _, e => by cases e
  | _ :: _, [], _, _, e => by cases e
  | i :: is, d :: ds, ρ, ρ', e => by
    have := setAll_len (is := is) e
    rw [this, List.length_set]
theorem bindT_len {t : Tg} {d : D} (e : bindT t d ρ = some ρ') : ρ'.length = ρ.length := by
  unfold bindT at e
  cases t with
  | nm i => simp only at e; cases e; rw [List.length_set]
  | tu is =>
    simp only at e
    split at e
    · exact setAll_len e
    · cases e
theorem bind_ok {t : Tg} {d : D} {x : V} {Q : L2.St → Hp → Prop} (e : bindT t d ρ = some ρ') (r : Rep B H μ d x) (N : Now B H μ ρ σ st) (k : ∀ σ', Now B H μ ρ' σ' st → (∀ j, j ∉ tgS t → σ'[j]? = σ[j]?) → Q σ' H) : gR B.K t x σ H Q := by
  unfold bindT at e
  cases t with
  | nm i =>
    simp only at e
    cases e
    exact k _ (N.set r) fun j hj => List.getElem?_set_ne (fun z => hj (by simp [tgS, z]))
  | tu is =>
    simp only at e
    split at e
    · obtain ⟨p, vs, rfl, hs, r2⟩ := sqT_of r
      have hl : vs.length = is.length := by
        have : ∀ (is : List Nat) (ds : List D) (ρ ρ' : Slots), setAll ρ is ds = some ρ' → ds.length = is.length := by
          intro is
          induction is with
          | nil => intro ds ρ ρ' e; cases ds <;> first | rfl | cases e
          | cons i is ih => intro ds ρ ρ' e; cases ds with
            | nil => cases e
            | cons d ds => rw [List.length_cons, List.length_cons, ih ds _ _ e]
        rw [r2.length, this _ _ _ _ e]
      exact ⟨p, vs, rfl, hs, hl, setAll_ok e r2 N k⟩
    · cases e
end
end Rx

set_option Elab.async false
set_option linter.all false
set_option maxRecDepth 100000
set_option maxHeartbeats 400000
set_option autoImplicit false
namespace Rx
open PySem L2 TL

section
variable {T : Tab} {C : CallF} {k : Nat} {X : Cx} {e e1 e2 e3 : Expr} {a b c : E} {pos : Pos}
def tI (K : PySem.W.Frag) (C : CallF) (c : I) : TI := tR K repW fun ρ st => evI C ρ c st
def tC' (K : PySem.W.Frag) (C : CallF) (c : Oe) : TT := tR K repB fun ρ st => evC C ρ c st
/-! ### comprehensions -/
theorem lcL_nil {g : Store → Bool} {f : D → Store → Rx.Res (Option D)} {acc : List D} {st : Store} {r : List D → Store → Rx.Res D} {d : D} {st' : Store} (h : (lcL g f [] acc st).bind r = .ok d st') : g st = true ∧ r acc st = .ok d st' := by
  unfold lcL at h
  by_cases hg : g st = true
  · rw [if_pos hg] at h; exact ⟨hg, h⟩
  · rw [if_neg hg] at h; cases h
theorem lcL_cons {g : Store → Bool} {f : D → Store → Rx.Res (Option D)} {x : D} {xs acc : List D} {st : Store} {r : List D → Store → Rx.Res D} {d : D} {st' : Store} (h : (lcL g f (x :: xs) acc st).bind r = .ok d st') :
    g st = true ∧ ∃ o st1, f x st = .ok o st1 ∧ ((o = none ∧ (lcL g f xs acc st1).bind r = .ok d st') ∨ ∃ y, o = some y ∧ acc.length < LINE ∧ (lcL g f xs (acc ++ [y]) st1).bind r = .ok d st') := by
  unfold lcL at h
  by_cases hg : g st = true
  · rw [if_pos hg] at h
    refine ⟨hg, ?_⟩
    cases hf : f x st with
    | no => rw [hf] at h; cases h
    | ok o st1 =>
      rw [hf] at h
      refine ⟨o, st1, rfl, ?_⟩
      cases o with
      | none => exact .inl ⟨rfl, h⟩
      | some y =>
        refine .inr ⟨y, rfl, ?_⟩
        simp only [Res.bind] at h
        by_cases hl : acc.length < LINE
        · rw [if_pos hl] at h; exact ⟨hl, h⟩
        · rw [if_neg hl] at h; cases h
  · rw [if_neg hg] at h; cases h
theorem drop_at {α : Type} {xs : List α} {i : Nat} {d : α} (h : xs[i]? = some d) : xs.drop i = d :: xs.drop (i + 1) := by
  have hl := (List.getElem?_eq_some_iff.mp h)
  obtain ⟨h1, h2⟩ := hl
  rw [List.drop_eq_getElem_cons h1, h2]
theorem lc_ok {m : Bool} {elt : E} {tg : Tg} {it : I} {cd : Oe} {own : List Nat} (hown : ∀ j ∈ tgS tg, j ∈ own) (σ : L2.St) (H : Hp) (Q : VK) (w : tE X.K C (.lc m elt tg it cd own) σ H Q) :
    tLc (tI X.K C it) (gR X.K tg) (tC' X.K C cd) (tE X.K C elt) ((ownOf X.N own).map (·.2)) σ H Q := by
  obtain ⟨B, μ, ρ, st, hB, N, W⟩ := w
  have eown : (ownOf X.N own).map (·.2) = own := by unfold ownOf; rw [List.map_map]; simp [Function.comp_def]
  rw [eown, ← hB]
  simp only [evE] at W
  refine go (R := repW) (fun ρ st => evI C ρ it st) rfl N W fun μ1 st1 w J H1 L N1 rw W1 => ?_
  intro p hp
  obtain ⟨d, st', e0, kk⟩ := W1
  have tr : ∀ {Hc : Hp} {μc : List Addr}, Later H1 μ1 Hc μc → Tran B H1 μ1 (B.hide p) Hc μc := fun {Hc μc} L => ⟨rfl, fun a o h e => ⟨⟨L.out h.1 e, fun hm => by
    rcases List.mem_cons.mp hm with z | z
    · rw [z, hp] at e; cases e
    · exact h.2 z⟩, L.keep a o h.1 e⟩, fun n a h => L.at h⟩
  refine ⟨fun i mm Hc => mm = w.xs.length - i ∧ i ≤ w.xs.length ∧ ∃ μc st acc vs, Later H1 μ1 Hc μc ∧ StOk (B.hide p) Hc μc st ∧ p ∉ μc ∧ Hc p = some (.lst vs) ∧ Reps (B.hide p) Hc μc acc vs ∧
    (lcL (guard w) (fun d st => match bindT tg d (wipeD ρ own) with
      | none => .no
      | some ρ' => (evC C ρ' cd st).bind fun b st => if b = true then (evE C ρ' elt st).bind fun y st => .ok (some y) st else .ok none st) (w.xs.drop i) acc st).bind (fun ys st => newL m ys st) = .ok d st', ⟨_, rfl, Nat.zero_le _, μ1, st1, [], [], Later.new hp, N1.st.hide hp, (N1.st.fresh hp).1, upd_same, rfl, e0⟩, ?_⟩
  rintro i mm Hc ⟨rfl, hi, μc, st, acc, vs, Lc, S, hpc, hH, rr, ev⟩
  have Wc := rw.tran (tr Lc)
  have Nc : Now (B.hide p) Hc μc ρ σ st := N1.tran (tr Lc) S
  by_cases hlt : i < w.xs.length
  · obtain ⟨x, hx⟩ : ∃ x, w.xs[i]? = some x := ⟨_, List.getElem?_eq_getElem hlt⟩
    rw [drop_at hx] at ev
    obtain ⟨hg, o, st2, hf, alt⟩ := lcL_cons ev
    obtain ⟨t1, t2, t3⟩ := Wc.turn S hg
    refine .inr ⟨t1 i hlt, _, fun H' h => ⟨w.xs.length - (i + 1), by omega, rfl, hlt, h⟩, fun v H2 yl => ?_⟩
    obtain ⟨x', hx', L2h, S2, r2⟩ := t3 i v H2 hlt yl
    rw [hx] at hx'; cases hx'
    split at hf
    · cases hf
    · rename_i ρ' hbind
      have N2 : Now (B.hide p) H2 μc (wipeD ρ own) (L2.wipe σ own) st := (Nc.later L2h S2).wipe own
      refine bind_ok (B := B.hide p) hbind r2 N2 fun σ' N3 hσ => ?_
      refine ⟨wipe_eq (by rw [← N3.len, ← L2.wipe_length σ own, ← N2.len]; have := N3.len; have := N2.len; have h1 := bindT_len hbind; omega) (fun j hj => hσ j fun z => hj (hown j z)), ?_⟩
      have Wt : Wd (B.hide p) H2 μc (fun _ _ _ (a : Option D) (b : Option D) => a = b) ((evC C ρ' cd st).bind fun b st => if b = true then (evE C ρ' elt st).bind fun y st => .ok (some y) st else .ok none st) (fun _ _ => True) := ⟨o, st2, hf, fun _ _ _ _ _ _ => trivial⟩
      cases hc : evC C ρ' cd st with
      | no => rw [hc] at hf; cases hf
      | ok bb st3 =>
        rw [hc] at hf
        refine ⟨B.hide p, μc, ρ', st, rfl, N3, bb, st3, hc, fun b' H3 μ3 L3 S3 rb => ?_⟩
        cases rb
        simp only [Res.bind] at hf
        have LL3 : Later H1 μ1 H3 μ3 := (Lc.trans L2h).trans L3
        have hH3 : H3 p = some (.lst vs) := L3.keep p _ hpc (L2h.keep p _ hpc hH)
        have hp3 : p ∉ μ3 := L3.out hpc (L2h.keep p _ hpc hH)
        cases bb with
        | false =>
          refine iteF ?_
          simp only [Bool.false_eq_true, if_false] at hf
          cases hf
          rcases alt with ⟨_, ev2⟩ | ⟨y, z, _⟩
          · exact ⟨μ3, _, acc, vs, LL3, S3, hp3, hH3, Reps.mono (L2h.trans L3) _ _ rr, ev2⟩
          · cases z
        | true =>
          refine iteT ?_
          simp only [if_true] at hf
          cases hy : evE C ρ' elt st3 with
          | no => rw [hy] at hf; cases hf
          | ok yd st4 =>
            rw [hy] at hf
            simp only [Res.bind] at hf
            cases hf
            rcases alt with ⟨z, _⟩ | ⟨y', z, hl, ev2⟩
            · cases z
            · cases z
              refine ⟨B.hide p, μ3, ρ', st3, rfl, N3.later L3 S3, yd, st2, hy, fun yv H4 μ4 L4 S4 ry => ?_⟩
              have hH4 : H4 p = some (.lst vs) := L4.keep p _ hp3 hH3
              have hp4 : p ∉ μ4 := L4.out hp3 hH3
              have hm : p ∈ (B.hide p).hid := List.mem_cons_self
              have LL4 : Later H1 μ1 H4 μ4 := LL3.trans L4
              refine ⟨vs, hH4, by rw [rr.length, line_eq]; exact hl, μ4, st2, acc ++ [yd], vs ++ [yv], ?_, S4.updH hm hp4, hp4, upd_same, ?_, ev2⟩
              · refine ⟨fun a o h e => ?_, fun a o e => ?_, LL4.more⟩
                · rw [upd_ne (ne_of_none e hp)]; exact LL4.keep a o h e
                · rw [upd_ne (ne_of_none e hp)]; exact LL4.live a o e
              · exact Reps.tran (tr_upd hm) _ _ (Reps.app (Reps.mono ((L2h.trans L3).trans L4) _ _ rr) ⟨yv, [], rfl, ry, rfl⟩)
  · have hi' : i = w.xs.length := by omega
    subst hi'
    rw [List.drop_length] at ev
    obtain ⟨hg, ev⟩ := lcL_nil ev
    obtain ⟨t1, t2, t3⟩ := Wc.turn S hg
    refine .inl ⟨t2, ?_⟩
    have hnb : p ∉ B.hid := fun hm => by
      obtain ⟨o, e⟩ := N1.st.hid p hm
      rw [hp] at e; cases e
    unfold newL at ev
    by_cases hm : m = true
    · rw [if_pos hm] at ev
      cases ev
      have tq : Tran (B.hide p) Hc μc B Hc (μc ++ [p]) := ⟨rfl, fun a o h e => ⟨⟨fun hx => by
        rcases List.mem_append.mp hx with z | z
        · exact h.1 z
        · exact h.2 (List.mem_cons.mpr (.inl (List.mem_singleton.mp z))), fun hx => h.2 (List.mem_cons_of_mem _ hx)⟩, e⟩, fun n a h => by
          rw [List.getElem?_append_left (List.getElem?_eq_some_iff.mp h).1]; exact h⟩
      refine kk _ _ (μc ++ [p]) ⟨Lc.keep, Lc.live, ?_⟩ ?_ ⟨p, rfl, ?_⟩
      · obtain ⟨r, e, h⟩ := Lc.more
        refine ⟨r ++ [p], by rw [e, List.append_assoc], fun a ha => ?_⟩
        rcases List.mem_append.mp ha with z | z
        · exact h a z
        · rw [List.mem_singleton.mp z]; exact hp
      · refine ⟨by rw [List.length_append, List.length_append, S.len]; rfl, ?_, fun a ha => S.hid a (List.mem_cons_of_mem _ ha), fun n a c h1 h2 => ?_⟩
        · rw [List.nodup_append]
          exact ⟨S.nd, by simp, fun a ha b hb => by rw [List.mem_singleton.mp hb]; exact fun z => hpc (z ▸ ha)⟩
        · by_cases hn : n < μc.length
          · rw [List.getElem?_append_left hn] at h1
            rw [List.getElem?_append_left (by rw [← S.len]; exact hn)] at h2
            exact (S.cell n a c h1 h2).tran tq fun _ e => e
          · have hn' : n = μc.length := by
              have := (List.getElem?_eq_some_iff.mp h1).1
              rw [List.length_append] at this
              simp at this; omega
            subst hn'
            rw [List.getElem?_append_right (Nat.le_refl _), Nat.sub_self] at h1
            rw [S.len, List.getElem?_append_right (Nat.le_refl _), Nat.sub_self] at h2
            simp at h1 h2; subst h1 h2
            exact ⟨vs, hH, Reps.tran tq _ _ rr⟩
      · rw [← S.len, List.getElem?_append_right (Nat.le_refl _), Nat.sub_self]; rfl
    · rw [if_neg hm] at ev
      cases ev
      exact kk _ _ μc Lc S.bare ⟨p, vs, rfl, ⟨⟨hpc, hnb⟩, hH⟩, Reps.tran tr_bare _ _ rr⟩
theorem snd_lc {t m : Bool} {elt : E} {tg : Tg} {it : I} {cd : Oe} {own : List Nat} {y g i : Expr} {ifs : List Expr} {scope : Scope} (G : Good T C k X)
    (hb : blkC X.N X.env.scope scope (ownOf X.N own) = true) (hown : ∀ j ∈ tgS tg, j ∈ own)
    (hi : PI X g i (tI X.K C it)) (hs : notSet i = true)
    (hg : ∀ (s : Shared) (H : Hp) (c0 : Addr) (cl : List (Str × Addr)) (fp : List Addr), PG (X.blk s H scope (compEnvC scope cl c0 X.env) fp) g (gR X.K tg))
    (ht : ∀ (s : Shared) (H : Hp) (c0 : Addr) (cl : List (Str × Addr)) (fp : List Addr), PTs (X.blk s H scope (compEnvC scope cl c0 X.env) fp) ifs (tC' X.K C cd))
    (he : ∀ (s : Shared) (H : Hp) (c0 : Addr) (cl : List (Str × Addr)) (fp : List Addr), PE (X.blk s H scope (compEnvC scope cl c0 X.env) fp) y (tE X.K C elt)) :
    Snd X C t (.lc m elt tg it cd own) (.ListComp y [⟨g, i, ifs, 0⟩] scope pos) :=
  Snd.plain rfl (PE.imp (pe_lc G.calm G.nd hi (blkOk_by hb) hg ht he (fold_of hs)) (lc_ok hown))
theorem ps_lc {m : Bool} {elt : E} {tg : Tg} {it : I} {cd : Oe} {own : List Nat} {y g i : Expr} {ifs : List Expr} {scope : Scope} {j : Nat} {x : Str} {px spos : Pos} (G : Good T C k X)
    (hx : X.N[j]? = some x) (hxl : X.env.scope.names.lookup x = some .local) (hsw : swapsWith (.ListComp y [⟨g, i, ifs, 0⟩] scope pos) (some (.Name x px)) spos.line X.env = pure true)
    (hb : blkC X.N X.env.scope scope (ownOf X.N own) = true) (hown : ∀ j ∈ tgS tg, j ∈ own)
    (hi : PI X g i (tI X.K C it)) (hs : notSet i = true)
    (hg : ∀ (s : Shared) (H : Hp) (c0 : Addr) (cl : List (Str × Addr)) (fp : List Addr), PG (X.blk s H scope (compEnvC scope cl c0 X.env) fp) g (gR X.K tg))
    (ht : ∀ (s : Shared) (H : Hp) (c0 : Addr) (cl : List (Str × Addr)) (fp : List Addr), PTs (X.blk s H scope (compEnvC scope cl c0 X.env) fp) ifs (tC' X.K C cd))
    (he : ∀ (s : Shared) (H : Hp) (c0 : Addr) (cl : List (Str × Addr)) (fp : List Addr), PE (X.blk s H scope (compEnvC scope cl c0 X.env) fp) y (tE X.K C elt)) :
    PS X (.Assign [.Name x px] (.ListComp y [⟨g, i, ifs, 0⟩] scope pos) spos) (tAsg (tE X.K C (.lc m elt tg it cd own)) (gName j)) :=
  PS.imp (ps_setLc G.calm G.nd hx hxl hsw hi (blkOk_by hb) hg ht he (fold_of hs)) fun D σ H h => lc_ok hown σ H _ h
end
end Rx

set_option Elab.async false
set_option linter.all false
set_option maxRecDepth 100000
set_option maxHeartbeats 400000
set_option autoImplicit false
namespace Rx
open PySem L2 TL

section
variable {T : Tab} {C : CallF} {k : Nat} {X : Cx} {e e1 e2 e3 : Expr} {a b c : E} {pos p : Pos}
theorem okEs_stars {N : List Str} {sc : Scope} {t : Bool} : ∀ (cs : Es) (es : List Expr), okEs T N cs sc t es = true → noStars es = true
  | .nil, [], _ => rfl
  | .nil, _ :: _, h => by cases h
  | .cons _ _, [], h => by cases h
  | .cons c cs, e :: es, h => by
    simp only [okEs, Bool.and_eq_true] at h
    simp only [noStars, Bool.and_eq_true]
    exact ⟨h.1.1, okEs_stars cs es h.2⟩
theorem pass0 {X : Cx} {E : XK} : Passes CX0 X E := fun _ _ _ _ _ _ _ h => h.elim
/-! ### calls -/
theorem callS {f n : Nat} {B : Bg} {H : Hp} {μ : List Addr} {st : Store} {ds : List D} {vs : List V} {Q : VK} {K : PySem.W.Frag} (hn : ∀ ds st, C f ds st ≠ .no → ds.length = n) (hB : B.K = K) (S : StOk B H μ st) (r : Reps B H μ ds vs) (W : Wd B H μ repD (C f ds st) Q) (E : XK := fun _ _ _ => False) :
    spF K C f n (vs ++ []) H Q E := by
  rw [List.append_nil]
  refine ⟨B, μ, st, ds, hB, S, r, ?_, W⟩
  rw [r.length]
  refine hn ds st fun z => ?_
  rw [z] at W
  exact W.not
theorem snd_call (G : Good T C k X) {t : Bool} {f : Nat} {x : Str} {es : List Expr} {cs : Es} (h1 : callB X.env.scope x = true) (h2 : T.fs[f]? = some x) (hs : noStars es = true) (hz : es = [] → cs = .nil) (ha : PA X es (tEs X.K C cs)) :
    Snd X C t (.call f cs) (.Call (.Name x p) es [] pos) := by
  obtain ⟨fa, fd, ps, hm, hk, hb, hn, F⟩ := G.fs f x h2
  obtain ⟨g1, g2, g3⟩ := call_of h1
  refine Snd.plain rfl ?_
  cases es with
  | nil =>
    refine PE.imp (pe_call0 (dvs := []) F G.room g1 hm hk hb .nil (pass0 (E := fun _ _ _ => False)) g2) fun σ H Q ⟨B, μ, ρ, st, hB, N, W⟩ => ?_
    have hz := hz rfl
    subst hz
    show spF X.K C f ps.length ([] ++ []) H Q (fun _ _ _ => False)
    exact callS (ds := []) (vs := []) hn hB N.st (show Reps B H μ [] [] from rfl) (Wd.eq (by simp only [evE, evEs, bnd_ok]) W)
  | cons e es =>
    unfold noStars at hs
    rw [Bool.and_eq_true] at hs
    refine PE.imp (pe_call (dvs := []) F G.room g1 hm hk hb .nil (pass0 (E := fun _ _ _ => False)) ha g2 (star_of hs.1) (plain_of pos hs.2)) fun σ H Q ⟨B, μ, ρ, st, hB, N, W⟩ => ?_
    simp only [evE] at W
    refine go (R := repDs) (fun ρ st => evEs C ρ cs st) hB N W fun μ2 st2 ds xs H2 L2 N2 rb W => ?_
    exact callS hn hB N2.st rb W
/-! ### built-ins -/
theorem boot_bi (b : Bi) : bootBuiltins (biN b) = some (biF b) := by
  cases b <;> decide +kernel
theorem snd_bi (G : Good T C k X) {t m : Bool} {b : Bi} {x : Str} {es : List Expr} {cs : Es} (h1 : callB X.env.scope x = true) (h2 : x = biN b) (h3 : T.bs.contains x = true) (hne : es.isEmpty = false) (hs : noStars es = true) (ha : PA X es (tEs X.K C cs)) :
    Snd X C t (.bi b m cs) (.Call (.Name x p) es [] pos) := by
  obtain ⟨g1, g2, g3⟩ := call_of h1
  have hm := G.bs x h3
  refine Snd.plain rfl ?_
  cases es with
  | nil => cases hne
  | cons e es =>
    unfold noStars at hs
    rw [Bool.and_eq_true] at hs
    have key : PE X (.Call (.Name x p) (e :: es) [] pos) (tCB (rBi X.K b) (tEs X.K C cs)) := by
      have hv : bootBuiltins x = some (biF b) := by rw [h2]; exact boot_bi b
      have hc := call_bi (X := X) G.calm b
      unfold biF at hv hc
      by_cases hz : (biS b).1 = true
      · rw [if_pos hz] at hv hc
        exact pe_callB hc g1 hm hv ha g3 g2 (star_of hs.1) (plain_of pos hs.2)
      · rw [if_neg hz] at hv hc
        exact pe_callTy hc g1 hm hv ha g3 g2 (star_of hs.1) (plain_of pos hs.2)
    refine PE.imp key fun σ H Q ⟨B, μ, ρ, st, hB, N, W⟩ => ?_
    simp only [evE] at W
    refine go (R := repDs) (fun ρ st => evEs C ρ cs st) hB N W fun μ2 st2 ds xs H2 L2 N2 rb W => ?_
    exact hB ▸ bi_ok N2.st rb W
theorem boot_ty (t : Ty) : bootBuiltins (tyS t) = some (.type (tyS t)) := by
  cases t <;> decide +kernel
theorem snd_isi (G : Good T C k X) {t : Bool} {ty : Ty} {x z : Str} {q : Pos} (h1 : callB X.env.scope x = true) (h2 : x = ("isinstance" : Str)) (h3 : T.bs.contains x = true) (h4 : callB X.env.scope z = true) (h5 : z = (tyS ty : Str)) (h6 : T.bs.contains z = true) (hs : notStar e = true) (ha : PE X e (tE X.K C a)) :
    Snd X C t (.isi a ty) (.Call (.Name x p) [e, .Name z q] [] pos) := by
  obtain ⟨g1, g2, g3⟩ := call_of h1
  obtain ⟨f1, f2, f3⟩ := call_of h4
  refine Snd.plain rfl ?_
  have hz : PE X (.Name z q) (tC (.ty (tyS ty))) := pe_bltn f1 (G.bs z h6) (by rw [h5]; exact boot_ty ty) rfl f3 f2
  refine PE.imp (pe_callB (call_isi (X := X)) g1 (G.bs x h3) (by rw [h2]; exact PyProof.Rows.boot_isinstance) (pa_cons ha (pa_cons hz pa_nil) (star_of hs)) g3 g2 (star_of hs) (plain_of (es := [.Name z q]) pos rfl)) fun σ H Q ⟨B, μ, ρ, st, hB, N, W⟩ => ?_
  simp only [evE] at W
  refine go (R := repD) (fun ρ st => evE C ρ a st) hB N W fun μ1 st1 d x H1 L N1 ra W => ?_
  obtain ⟨j, e1, q1⟩ := W.ofB N1.st
  show rIsi X.K [x, .ty (tyS ty)] H1 Q
  exact hB ▸ isi_ok N1.st e1 ra q1
/-! ### methods -/
theorem few_ok {es : List Expr} (hs : noStars es = true) (hl : es.length < 30) : ((backTo pos (starEach es X.env)).all (fun x => !x.1) && (backToKw pos (keywordEach [] X.env)).all (fun x => x.1.isSome)
      && decide (es.length + ([] : List Keyword).length + (if ([] : List Keyword).isEmpty then 0 else 1) < 30)) = true := by
  rw [few_of pos hs]
  simp [keywordEach, backToKw, hl]
theorem few_trees {e : Expr} {es : List Expr} (hs : noStars (e :: es) = true) : starEach (e :: es) X.env = (false, eval e X.env) :: starEach es X.env ∧ (backTo pos (starEach es X.env)).any (·.1) = false := by
  unfold noStars at hs
  rw [Bool.and_eq_true] at hs
  exact ⟨star_of hs.1, plain_of pos hs.2⟩
theorem pe_me {id : String} {r : V → List V → Hp → VK → Prop} {TT name : String} {apos : Pos} {es : List Expr} {o : Expr} {co : E} {cs : Es} (pa : PlainAttrs TT) (slot : Slot TT name id) (hty : typeOf (.builtin id) = pure (.type "method_descriptor")) (hm : MtR X id r) (ho : PE X o (tE X.K C co)) (ha : PA X es (tEs X.K C cs))
    (hl : es.length = 1) (hp : apos.endLine = pos.line) (hb : notCall0 o = true) (hs : noStars es = true) : PE X (.Call (.Attribute o name apos) es [] pos) (tBM X.K TT r (tE X.K C co) (tEs X.K C cs)) := by
  cases es with
  | nil => cases hl
  | cons e es =>
    obtain ⟨h1, h2⟩ := few_trees (X := X) (pos := pos) hs
    exact pe_bm pa slot hty hm ho ha (base_of hb) (few_ok hs (by omega)) (by rw [hp]; exact beq_self_eq_true _) h1 h2
theorem tBM_ok {TT : String} {r : V → List V → Hp → VK → Prop} {f : Me} {m : Bool} {co : E} {cs : Es} (hr : ∀ x vs H Q, meR X.K f x vs H Q → r x vs H Q) (hT : ∀ x H, meTy X.K f x H → tyV X.K TT x H) (σ : St) (H : Hp) (Q : VK) (w : tE X.K C (.me f m co cs) σ H Q) : tBM X.K TT r (tE X.K C co) (tEs X.K C cs) σ H Q := by
  obtain ⟨B, μ, ρ, st, hB, N, W⟩ := w
  simp only [evE] at W
  refine go (R := repD) (fun ρ st => evE C ρ co st) hB N W fun μ1 st1 d x H1 L N1 ra W => ?_
  by_cases hi : meIs st1 f d = true
  · rw [if_pos hi] at W
    refine ⟨hT _ _ (hB ▸ meIs_ok N1.st hi ra), ?_⟩
    refine go (R := repDs) (fun ρ st => evEs C ρ cs st) hB N1 W fun μ2 st2 ds xs H2 L2 N2 rb W => ?_
    exact hr _ _ _ _ (hB ▸ me_ok N2.st (Rep.mono L2 _ _ ra) rb W)
  · rw [if_neg hi] at W; exact W.not.elim
theorem snd_me (G : Good T C k X) {t m : Bool} {f : Me} {x : Str} {o : Expr} {co : E} {es : List Expr} {cs : Es} {apos : Pos} (hx : x = (meN f : Str)) (hl : es.length = meA f) (hp : apos.endLine = pos.line) (hb : notCall0 o = true) (hs : noStars es = true) (ho : PE X o (tE X.K C co))
    (ha : PA X es (tEs X.K C cs)) (h1 : ∀ e, es = [e] → ∃ c, cs = .cons c .nil ∧ PE X e (tE X.K C c)) (h2 : ∀ e g, es = [e, g] → ∃ c d, cs = .cons c (.cons d .nil) ∧ PE X e (tE X.K C c) ∧ PE X g (tE X.K C d)) :
    Snd X C t (.me f m co cs) (.Call (.Attribute o x apos) es [] pos) := by
  refine Snd.plain rfl ?_
  subst hx
  have hu : X.A.units + 1 < cLine := by have := G.u; omega
  cases f with
  | join => exact PE.imp (pe_me PySem.F.plainAttrs_str PySem.F.slot_str_join PySem.F.type_str_join mt_join ho ha hl hp hb hs) (tBM_ok (fun _ _ _ _ h => h) fun _ _ h => h)
  | partition => exact PE.imp (pe_me PySem.F.plainAttrs_str PySem.F.slot_str_partition PySem.F.type_str_partition mt_partition ho ha hl hp hb hs) (tBM_ok (fun _ _ _ _ h => h) fun _ _ h => h)
  | split => exact PE.imp (pe_me PySem.F.plainAttrs_str PySem.F.slot_str_split PySem.F.type_str_split mt_split ho ha hl hp hb hs) (tBM_ok (fun _ _ _ _ h => h) fun _ _ h => h)
  | count => exact PE.imp (pe_me PySem.F.plainAttrs_str PySem.F.slot_str_count PySem.F.type_str_count mt_count ho ha hl hp hb hs) (tBM_ok (fun _ _ _ _ h => h) fun _ _ h => h)
  | append => exact PE.imp (pe_me PySem.F.plainAttrs_list PySem.F.slot_list_append PySem.F.type_list_append mt_append ho ha hl hp hb hs) (tBM_ok (fun _ _ _ _ h => h) fun _ _ h => h)
  | extend => exact PE.imp (pe_me PySem.F.plainAttrs_list PySem.F.slot_list_extend PySem.F.type_list_extend mt_extend ho ha hl hp hb hs) (tBM_ok (fun _ _ _ _ h => h) fun _ _ h => h)
  | get1 =>
    obtain ⟨e, rfl⟩ : ∃ e, es = [e] := by
      cases es with
      | nil => cases hl
      | cons e r => cases r with
        | nil => exact ⟨e, rfl⟩
        | cons _ _ => cases hl
    obtain ⟨c, rfl, he⟩ := h1 e rfl
    refine PE.imp (pe_dget1 hu ho he ⟨base_of hb, few_ok hs (by simp), by rw [hp]; exact beq_self_eq_true _, trees_of pos hs⟩) fun σ H Q ⟨B, μ, ρ, st, hB, N, W⟩ => ?_
    simp only [evE] at W
    refine go (R := repD) (fun ρ st => evE C ρ co st) hB N W fun μ1 st1 d x H1 L N1 ra W => ?_
    by_cases hi : meIs st1 .get1 d = true
    · rw [if_pos hi] at W
      obtain ⟨a, ex, hd⟩ := meIs_ok N1.st hi ra
      refine ⟨a, ex, hd, ?_⟩
      simp only [evEs] at W
      rw [bind_assoc] at W
      refine go (R := repD) (fun ρ st => evE C ρ c st) hB N1 W fun μ2 st2 d2 y H2 L2 N2 rb W => ?_
      obtain ⟨a', y', ov, e1, e2, e3, e4⟩ := me_ok (m := m) (f := .get1) N2.st (Rep.mono L2 _ _ ra) (show Reps B H2 μ2 [d2] [y] from ⟨y, [], rfl, rb, rfl⟩) W
      rw [ex] at e1; cases e1; cases e2
      exact ⟨ov, e3, e4⟩
    · rw [if_neg hi] at W; exact W.not.elim
  | get2 =>
    obtain ⟨e, g, rfl⟩ : ∃ e g, es = [e, g] := by
      cases es with
      | nil => cases hl
      | cons e r => cases r with
        | nil => cases hl
        | cons g r => cases r with
          | nil => exact ⟨e, g, rfl⟩
          | cons _ _ => cases hl
    obtain ⟨c, cd, rfl, he, hg⟩ := h2 e g rfl
    refine PE.imp (pe_dget2 hu ho he hg ⟨base_of hb, few_ok hs (by simp), by rw [hp]; exact beq_self_eq_true _, trees_of pos hs⟩) fun σ H Q ⟨B, μ, ρ, st, hB, N, W⟩ => ?_
    simp only [evE] at W
    refine go (R := repD) (fun ρ st => evE C ρ co st) hB N W fun μ1 st1 d x H1 L N1 ra W => ?_
    by_cases hi : meIs st1 .get2 d = true
    · rw [if_pos hi] at W
      obtain ⟨a, ex, hd⟩ := meIs_ok N1.st hi ra
      refine ⟨a, ex, hd, ?_⟩
      simp only [evEs] at W
      rw [bind_assoc] at W
      refine go (R := repD) (fun ρ st => evE C ρ c st) hB N1 W fun μ2 st2 d2 y H2 L2 N2 rb W => ?_
      rw [bind_assoc, bind_assoc] at W
      refine go (R := repD) (fun ρ st => evE C ρ cd st) hB N2 W fun μ3 st3 d3 z H3 L3 N3 rc W => ?_
      obtain ⟨a', y', z', ov, e1, e2, e3, e4⟩ := me_ok (m := m) (f := .get2) N3.st (Rep.mono (L2.trans L3) _ _ ra) (show Reps B H3 μ3 [d2, d3] [y, z] from ⟨y, [z], rfl, Rep.mono L3 _ _ rb, z, [], rfl, rc, rfl⟩) W
      rw [ex] at e1; cases e1; cases e2
      exact ⟨ov, e3, e4⟩
    · rw [if_neg hi] at W; exact W.not.elim
end
end Rx

set_option Elab.async false
set_option linter.all false
set_option maxRecDepth 100000
set_option maxHeartbeats 400000
set_option autoImplicit false
namespace Rx
open PySem L2 TL

/-! ### what was made behind a hidden place -/
section
variable {B : Bg} {H1 Hc : Hp} {μ1 μc : List Addr} {st1 st : Store} {p : Addr} {o : HO}
theorem hid_out (S : StOk B H1 μ1 st1) (hp : H1 p = none) (hpc : p ∉ μc) : Out B μc p := ⟨hpc, fun hm => by
  obtain ⟨o, e⟩ := S.hid p hm
  rw [hp] at e; cases e⟩
theorem tr_show (hpc : p ∉ μc) : Tran (B.hide p) Hc μc B Hc (μc ++ [p]) := ⟨rfl, fun a o h e => ⟨⟨fun hx => by
    rcases List.mem_append.mp hx with z | z
    · exact h.1 z
    · exact h.2 (List.mem_cons.mpr (.inl (List.mem_singleton.mp z))), fun hx => h.2 (List.mem_cons_of_mem _ hx)⟩, e⟩, fun n a h => by
    rw [List.getElem?_append_left (List.getElem?_eq_some_iff.mp h).1]; exact h⟩
theorem hid_mut {c : Cell} (hp : H1 p = none) (Lc : Later H1 μ1 Hc μc) (S : StOk (B.hide p) Hc μc st) (hpc : p ∉ μc) (hc : CellOk (B.hide p) Hc μc p c) :
    Later H1 μ1 Hc (μc ++ [p]) ∧ StOk B Hc (μc ++ [p]) (st ++ [c]) ∧ (μc ++ [p])[st.length]? = some p := by
  have tq := tr_show (B := B) (Hc := Hc) hpc
  refine ⟨⟨Lc.keep, Lc.live, ?_⟩, ?_, ?_⟩
  · obtain ⟨r, e, h⟩ := Lc.more
    refine ⟨r ++ [p], by rw [e, List.append_assoc], fun a ha => ?_⟩
    rcases List.mem_append.mp ha with z | z
    · exact h a z
    · rw [List.mem_singleton.mp z]; exact hp
  · refine ⟨by rw [List.length_append, List.length_append, S.len]; rfl, ?_, fun a ha => S.hid a (List.mem_cons_of_mem _ ha), fun n a c' h1 h2 => ?_⟩
    · rw [List.nodup_append]
      exact ⟨S.nd, by simp, fun a ha b hb => by rw [List.mem_singleton.mp hb]; exact fun z => hpc (z ▸ ha)⟩
    · by_cases hn : n < μc.length
      · rw [List.getElem?_append_left hn] at h1
        rw [List.getElem?_append_left (by rw [← S.len]; exact hn)] at h2
        exact (S.cell n a c' h1 h2).tran tq fun _ e => e
      · have hn' : n = μc.length := by
          have := (List.getElem?_eq_some_iff.mp h1).1
          rw [List.length_append] at this
          simp at this; omega
        subst hn'
        rw [List.getElem?_append_right (Nat.le_refl _), Nat.sub_self] at h1
        rw [S.len, List.getElem?_append_right (Nat.le_refl _), Nat.sub_self] at h2
        simp at h1 h2; subst h1 h2
        exact hc.tran tq fun _ e => e
  · rw [← S.len, List.getElem?_append_right (Nat.le_refl _), Nat.sub_self]; rfl
end
section
variable {T : Tab} {C : CallF} {k : Nat} {X : Cx} {e e1 e2 e3 : Expr} {a b c : E} {pos p : Pos}
/-! ### dict displays -/
def flatP : List (V × V) → List V
  | [] => []
  | (x, y) :: r => x :: y :: flatP r
theorem pairs_rep {B : Bg} {H : Hp} {μ : List Addr} : ∀ (ps : List (V × V)) {ds : List D} {ks : List Ky} {us : List D}, pairsD ds = some (ks, us) → Reps B H μ ds (flatP ps) →
    ∃ kvs : List (Key × V), ps = kvs.map (fun kv => (kV kv.1, kv.2)) ∧ kvs.map Prod.fst = ks.map kyK ∧ Reps B H μ us (kvs.map Prod.snd)
  | [], ds, ks, us, e, r => by
    cases ds with
    | nil => cases e; exact ⟨[], rfl, rfl, rfl⟩
    | cons d ds => obtain ⟨_, _, h, _⟩ := r; cases h
  | (x, y) :: ps, ds, ks, us, e, r => by
    cases ds with
    | nil => cases r
    | cons d ds => cases ds with
      | nil => cases e
      | cons f ds =>
        obtain ⟨_, _, h, r1, r2⟩ := r
        cases h
        obtain ⟨_, _, h, r3, r4⟩ := r2
        cases h
        simp only [pairsD] at e
        obtain ⟨j, e1, e⟩ := Option.bind_eq_some_iff.mp e
        obtain ⟨q, e2, e⟩ := Option.map_eq_some_iff.mp e
        cases e
        obtain ⟨kvs, h1, h2, h3⟩ := pairs_rep ps (ks := q.1) (us := q.2) e2 r4
        have ex := kyOf_rep e1 r1
        subst ex
        exact ⟨(kyK j, y) :: kvs, by rw [h1]; rfl, by rw [List.map_cons, List.map_cons, h2], y, _, rfl, r3, h3⟩
theorem mergeK_app : ∀ (more acc : List (Key × V)), (more.map Prod.fst).Nodup → (∀ kv ∈ more, kv.1 ∉ acc.map Prod.fst) → mergeK acc more = acc ++ more
  | [], acc, _, _ => by simp [mergeK]
  | kv :: r, acc, hn, hd => by
    rw [List.map_cons, List.nodup_cons] at hn
    have h1 : putK acc kv.1 kv.2 = acc ++ [kv] := by
      unfold putK
      rw [if_neg]
      intro z
      rw [List.any_eq_true] at z
      obtain ⟨q, hq, e⟩ := z
      exact hd kv List.mem_cons_self (List.mem_map.mpr ⟨q, hq, of_decide_eq_true e⟩)
    show mergeK (putK acc kv.1 kv.2) r = _
    rw [h1, mergeK_app r _ hn.2]
    · simp
    · intro q hq z
      rw [List.map_append, List.mem_append] at z
      rcases z with z | z
      · exact hd q (List.mem_cons_of_mem _ hq) z
      · simp at z
        exact hn.1 (z ▸ List.mem_map.mpr ⟨q, hq, rfl⟩)
def trsOf (K : PySem.W.Frag) (C : CallF) : Es → List (TE × TE)
  | .cons c (.cons d r) => (tE K C c, tE K C d) :: trsOf K C r
  | _ => []
def esLen : Es → Nat
  | .nil => 0
  | .cons _ r => esLen r + 1
theorem tPairs_ok {K : PySem.W.Frag} : ∀ (n : Nat) (cs : Es) {B : Bg} {H : Hp} {μ : List Addr} {ρ : Slots} {σ : L2.St} {st : Store} {Qv : List V → Hp → Prop} {Q : List (V × V) → Hp → Prop}, esLen cs ≤ n → B.K = K → Now B H μ ρ σ st →
    Wd B H μ repDs (evEs C ρ cs st) Qv → (∀ ps H2, Qv (flatP ps) H2 → Q ps H2) → (trsOf K C cs).length * 2 = esLen cs → tPairs (trsOf K C cs) σ H Q
  | n, .nil, B, H, μ, ρ, σ, st, Qv, Q, _, hB, N, W, h, _ => by
    simp only [evEs] at W
    exact h [] H (W.here N.st (x := []) rfl)
  | n, .cons c .nil, B, H, μ, ρ, σ, st, Qv, Q, _, hB, N, W, h, hl => by simp [trsOf, esLen] at hl
  | 0, .cons c (.cons d r), B, H, μ, ρ, σ, st, Qv, Q, hn, hB, N, W, h, hl => by simp [esLen] at hn
  | n + 1, .cons c (.cons d r), B, H, μ, ρ, σ, st, Qv, Q, hn, hB, N, W, h, hl => by
    have hl' : (trsOf K C r).length * 2 = esLen r := by
      simp only [trsOf, esLen, List.length_cons] at hl; omega
    have hn' : esLen r ≤ n := by
      simp only [esLen] at hn; omega
    show tE K C c σ H _
    simp only [evEs, bind_assoc] at W
    refine go (R := repD) (fun ρ st => evE C ρ c st) hB N W fun μ1 st1 d1 x H1 L1 N1 ra W => ?_
    refine go (R := repD) (fun ρ st => evE C ρ d st) hB N1 W fun μ2 st2 d2 y H2 L2 N2 rb W => ?_
    have W2 : Wd B H2 μ2 repDs (evEs C ρ r st2) fun vs H3 => Qv (x :: y :: vs) H3 := by
      obtain ⟨dd, st', e, kk⟩ := W
      cases hz : evEs C ρ r st2 with
      | no => rw [hz] at e; cases e
      | ok ds st3 =>
        rw [hz] at e
        cases e
        exact ⟨ds, _, rfl, fun v H' μ' L S rr => kk _ H' μ' L S ⟨x, _, rfl, Rep.mono (L2.trans L) _ _ ra, y, v, rfl, Rep.mono L _ _ rb, rr⟩⟩
    exact tPairs_ok n r hn' hB N2 W2 (fun ps H3 q => h _ _ q) hl'
theorem snd_dct {t m : Bool} {cs : Es} {ks : List (Option Expr)} {vs : List Expr} (h : PPs X pos ks vs (trsOf X.K C cs)) (hall : ks.all (·.isSome) = true) (hl : ks.length = vs.length) (h2 : (trsOf X.K C cs).length * 2 = esLen cs) (hz : ks = [] → cs = .nil ∧ vs = [])
    (h15 : ks.length ≤ 15) : Snd X C t (.dct m cs) (.Dict ks vs pos) := by
  refine Snd.plain rfl ?_
  by_cases h0 : ks = []
  · obtain ⟨rfl, rfl⟩ := hz h0
    subst h0
    refine PE.imp pe_dnewK fun σ H Q ⟨B, μ, ρ, st, hB, N, W⟩ p hp => ?_
    replace W : Wd B H μ repD (newD m [] [] st) Q := Wd.eq (by simp only [evE, evEs, pairsD, bnd_ok]; exact if_pos (by decide)) W
    unfold newD at W
    by_cases hm : m = true
    · rw [if_pos hm] at W
      obtain ⟨d', st', e, kk⟩ := W
      cases e
      exact kk _ _ (μ ++ [p]) (Later.newM hp) (N.st.newM hp ⟨[], upd_same, rfl, rfl⟩) ⟨p, rfl, by rw [← N.st.len, List.getElem?_append_right (Nat.le_refl _), Nat.sub_self]; rfl⟩
    · rw [if_neg hm] at W
      exact W.new N.st hp ⟨p, [], rfl, ⟨N.st.fresh hp, upd_same⟩, rfl, rfl⟩
  · refine PE.imp (pe_disp h hall hl h0 h15) fun σ H Q ⟨B, μ, ρ, st, hB, N, W⟩ p hp => ?_
    have tr0 : Tran B H μ (B.hide p) (upd H p (.dK [])) μ := tr_hide hp
    have N0 : Now (B.hide p) (upd H p (.dK [])) μ ρ σ st := N.tran tr0 (N.st.hide hp)
    have hpm : p ∉ μ := (N.st.fresh hp).1
    simp only [evE] at W
    obtain ⟨dd, st', e, kk⟩ := W
    cases hev : evEs C ρ cs st with
    | no => rw [hev] at e; cases e
    | ok ds st2 =>
      rw [hev] at e
      simp only [Res.bind] at e
      cases hps : pairsD ds with
      | none => rw [hps] at e; cases e
      | some q =>
        obtain ⟨kys, us⟩ := q
        rw [hps] at e
        simp only at e
        by_cases hnd : kys.Nodup ∧ kys.length ≤ 15
        · rw [if_pos hnd] at e
          refine tPairs_ok (C := C) (esLen cs) cs (B := B.hide p) (Qv := fun vs H2 => ∃ μ2, Later (upd H p (.dK [])) μ H2 μ2 ∧ StOk (B.hide p) H2 μ2 st2 ∧ Reps (B.hide p) H2 μ2 ds vs) (Nat.le_refl _) hB N0 ⟨ds, st2, hev, fun v H' μ' L S r => ⟨μ', L, S, r⟩⟩ ?_ h2
          rintro ps H2 ⟨μ2, L2h, S2, r2⟩
          have hH2 : H2 p = some (.dK []) := L2h.keep p _ hpm upd_same
          have hp2 : p ∉ μ2 := L2h.out hpm upd_same
          obtain ⟨kvs, e1, e2, e3⟩ := pairs_rep ps hps r2
          have hkn : (kvs.map Prod.fst).Nodup := by
            rw [e2]
            exact hnd.1.map kyK fun a b hab z => hab (kyK_inj z)
          have hlen : kvs.length ≤ 15 := by
            have := congrArg List.length e2
            rw [List.length_map, List.length_map] at this
            omega
          refine ⟨hH2, kvs, e1, hlen, ?_⟩
          rw [mergeK_app kvs [] hkn (by simp), List.nil_append]
          have hm' : p ∈ (B.hide p).hid := List.mem_cons_self
          have S3 : StOk (B.hide p) (upd H2 p (.dK kvs)) μ2 st2 := S2.updH hm' hp2
          have r3 : Reps (B.hide p) (upd H2 p (.dK kvs)) μ2 us (kvs.map Prod.snd) := Reps.tran (tr_upd hm') _ _ e3
          have L3 : Later H μ (upd H2 p (.dK kvs)) μ2 := by
            have LL := (Later.new (o := .dK []) (μ := μ) hp).trans L2h
            refine ⟨fun a o h e => ?_, fun a o e => ?_, LL.more⟩
            · rw [upd_ne (ne_of_none e hp)]; exact LL.keep a o h e
            · rw [upd_ne (ne_of_none e hp)]; exact LL.live a o e
          unfold newD at e
          by_cases hm : m = true
          · rw [if_pos hm] at e
            cases e
            obtain ⟨q1, q2, q3⟩ := hid_mut (c := .dct kys us) hp L3 S3 hp2 ⟨kvs, upd_same, e2, r3⟩
            exact kk _ _ _ q1 q2 ⟨p, rfl, q3⟩
          · rw [if_neg hm] at e
            cases e
            exact kk _ _ μ2 L3 S3.bare ⟨p, kvs, rfl, ⟨hid_out N.st hp hp2, upd_same⟩, e2, Reps.tran tr_bare _ _ r3⟩
        · rw [if_neg hnd] at e; cases e
/-! ### tests of comprehensions -/
theorem pts_none' : PTs X [] (tC' X.K C .non) := ⟨fun pins s σ H Q I ⟨B, μ, ρ, st, hB, N, W⟩ => pts_nil.run pins s σ H Q I (by
  simp only [evC] at W
  exact W.here N.st (x := true) rfl)⟩
theorem pts_some' (h : PT X e (tT X.K C c)) : PTs X [e] (tC' X.K C (.som c)) := ⟨fun pins s σ H Q I ⟨B, μ, ρ, st, hB, N, W⟩ => (pts_one h).run pins s σ H Q I ⟨B, μ, ρ, st, hB, N, Wd.eq (by simp only [evC]) W⟩⟩
end
end Rx

set_option Elab.async false
set_option linter.all false
set_option maxRecDepth 100000
set_option maxHeartbeats 400000
set_option autoImplicit false
namespace Rx
open PySem L2 TL

section
variable {T : Tab} {C : CallF} {k : Nat} {X : Cx} {tg e e1 e2 e3 : Expr} {a b c d : E} {pos p : Pos}
/-! ### what is walked -/
theorem PI.imp' {t t' : TI} (h : PI X tg e t) (i : ∀ σ H Q, t' σ H Q → t σ H Q) : PI X tg e t' := ⟨fun pins s σ H Q I w => h.run pins s σ H Q I (i _ _ _ w)⟩
def iAny (K : PySem.W.Frag) (te : TE) : TI := fun σ H R => te σ H fun x H1 => (∃ a xs, x = .ref a ∧ SqL K H1 a xs ∧ R (Itl K a) H1) ∨ (∃ a xs, x = .ref a ∧ SqT K H1 a xs ∧ R (Itt K a) H1) ∨ ∃ z, x = .str z ∧ R (Its z) H1
theorem pi_any {te : TE} (he : PE X e te) : PI X tg e (iAny X.K te) := by
  refine ⟨fun pins s σ H R I h => ?_⟩
  refine thn (he.run pins s σ H _ I h) fun v s1 ⟨x, H1, I1, r1, q1⟩ => ?_
  rcases q1 with ⟨a, xs, ex, hq, q⟩ | ⟨a, xs, ex, hq, q⟩ | ⟨z, ex, q⟩
  · subst ex
    cases r1
    obtain ⟨its, rv, p, hz⟩ := I1.list hq
    refine wpAny_pyIter_list p.isList ?_
    refine ⟨s1.heap.objs.size, [s1.heap.objs.size], _, _, H1, rfl, I1.kept (t' := s1.toks) fun b o e => Heap.get?_push_of_some _ e, turn_list a _, ⟨_, Heap.get?_push_size _ rfl, rfl, rfl⟩, fun b hb => ?_, q⟩
    have e : b = s1.heap.objs.size := by simpa using hb
    subst e
    exact I1.fpOk (Nat.le_refl _) (I1.hok.fresh (Nat.le_refl _))
  · subst ex
    cases r1
    obtain ⟨its, rv, p, hz⟩ := I1.tuple hq
    refine wpAny_pyIter_tuple (show s1.heap.IsTuple a its.toArray from p) ?_
    refine ⟨s1.heap.objs.size, [s1.heap.objs.size], _, _, H1, rfl, I1.kept (t' := s1.toks) fun b o e => Heap.get?_push_of_some _ e, turn_tuple a _, ⟨_, Heap.get?_push_size _ rfl, rfl, rfl⟩, fun b hb => ?_, q⟩
    have e : b = s1.heap.objs.size := by simpa using hb
    subst e
    exact I1.fpOk (Nat.le_refl _) (I1.hok.fresh (Nat.le_refl _))
  · subst ex
    obtain ⟨t, rfl⟩ := r1
    cases ha : z.cps.all (· < 128)
    · exact wpAny_pyIter_wide ha (pi_one (tk := s1.toks) I1 _ (turn_str _ z t "str_iterator" (.inr rfl)) ⟨_, Heap.get?_push_size _ rfl, rfl, rfl⟩ q)
    · exact wpAny_pyIter_ascii ha (pi_one (tk := s1.toks) I1 _ (turn_str _ z t "str_ascii_iterator" (.inl rfl)) ⟨_, Heap.get?_push_size _ rfl, rfl, rfl⟩ q)
theorem wlk_of {f : D} {st : Store} {w : Walked} (h : wlkL f st = some w) : IsL f w.xs w.ats ∧ lroOf st f = some w.xs := by
  unfold wlkL at h
  split at h
  · cases h; exact ⟨.inl ⟨rfl, rfl⟩, rfl⟩
  · cases h; exact ⟨.inr (.inl ⟨rfl, rfl⟩), rfl⟩
  · split at h
    · rename_i q
      cases h
      exact ⟨.inr (.inr ⟨_, rfl, rfl⟩), by simp only [lroOf, q]⟩
    · cases h
  · cases h
theorem Wd.ofW {B : Bg} {H : Hp} {μ : List Addr} {st : Store} {o : Option Walked} {Q : It → Hp → Prop} (W : Wd B H μ repW (Res.of o st) Q) : ∃ w, o = some w ∧ Wd B H μ repW (.ok w st) Q := by
  cases o with
  | none => exact W.not.elim
  | some w => exact ⟨w, rfl, W⟩
theorem pi_it (he : PE X e (tE X.K C c)) : PI X tg e (tI X.K C (.it c)) := by
  refine PI.imp' (pi_any he) fun σ H Q ⟨B, μ, ρ, st, hB, N, W⟩ => ?_
  simp only [evI] at W
  refine go (R := repD) (fun ρ st => evE C ρ c st) hB N W fun μ1 st1 f x H1 L N1 ra W => ?_
  obtain ⟨w, e1, W⟩ := W.ofW
  unfold itOf at e1
  split at e1
  · cases e1
    obtain ⟨q, vs, rfl, hs, r2⟩ := sqT_of ra
    exact .inr (.inl ⟨q, vs, rfl, hB ▸ hs, hB ▸ W.here N1.st (Wk.tup ra)⟩)
  · cases e1
    cases ra
    exact .inr (.inr ⟨_, rfl, W.here N1.st (Wk.str _)⟩)
  · obtain ⟨h1, h2⟩ := wlk_of e1
    obtain ⟨q, vs, rfl, hs, r2⟩ := lro_rep N1.st h2 ra
    exact .inl ⟨q, vs, rfl, hB ▸ hs, hB ▸ W.here N1.st (Wk.lst h1 ra)⟩
theorem pa_one' {es : List Expr} (hs : notStar e = true) (h : PE X e (tE X.K C c)) : PA X [e] (tEs X.K C (.cons c .nil)) := pa_cons' hs h pa_nil'
theorem ev2 {α : Type} (ρ : Slots) (st : Store) (c d : E) (g : D → D → Store → Rx.Res α) : ((evE C ρ c st).bind fun x st => (evE C ρ d st).bind fun y st => g x y st) = (evEs C ρ (.cons c (.cons d .nil)) st).bind fun ds st => match ds with
    | [x, y] => g x y st
    | _ => .no := by
  simp only [evEs, bind_assoc, bnd_ok]
theorem ev1 {α : Type} (ρ : Slots) (st : Store) (c : E) (g : D → Store → Rx.Res α) : ((evE C ρ c st).bind fun x st => g x st) = (evEs C ρ (.cons c .nil) st).bind fun ds st => match ds with
    | [x] => g x st
    | _ => .no := by
  simp only [evEs, bind_assoc, bnd_ok]
theorem pi_rng {x : Str} (G : Good T C k X) (h1 : callB X.env.scope x = true) (h2 : x = ("range" : Str)) (h3 : T.bs.contains x = true) (hs : notStar e = true) (he : PE X e (tE X.K C c)) : PI X tg (.Call (.Name x p) [e] [] pos) (tI X.K C (.rng c)) := by
  obtain ⟨g1, g2, g3⟩ := call_of h1
  have hm := G.bs x h3
  subst h2
  refine PI.imp' (pi_range1 g1 hm (pa_one' (es := []) hs he) (by rw [star_of hs]; rfl)) fun σ H Q ⟨B, μ, ρ, st, hB, N, W⟩ => ?_
  simp only [evI] at W
  rw [ev1] at W
  refine go (R := repDs) (fun ρ st => evEs C ρ (.cons c .nil) st) hB N W fun μ1 st1 f x H1 L N1 ra W => ?_
  split at W
  · split at W
    · rename_i j
      obtain ⟨v, _, rfl, r1, rfl⟩ := ra
      cases r1
      split at W
      · rename_i hj
        exact ⟨j, rfl, hj.1, hj.2, by have := W.here N1.st (Wk.rang 0 j); rw [Int.sub_zero] at this; exact this⟩
      · exact W.not.elim
    · exact W.not.elim
  · exact W.not.elim
theorem pi_rng2 {x : Str} (G : Good T C k X) (h1 : callB X.env.scope x = true) (h2 : x = ("range" : Str)) (h3 : T.bs.contains x = true) (hs : notStar e1 = true) (hs2 : notStar e2 = true) (he : PE X e1 (tE X.K C c)) (hd : PE X e2 (tE X.K C d)) :
    PI X tg (.Call (.Name x p) [e1, e2] [] pos) (tI X.K C (.rng2 c d)) := by
  obtain ⟨g1, g2, g3⟩ := call_of h1
  have hm := G.bs x h3
  subst h2
  refine PI.imp' (pi_range2 g1 hm (pa_cons' hs he (pa_one' (es := []) hs2 hd)) (by rw [star_of hs, star_of hs2]; rfl) (by rw [star_of hs2]; rfl)) fun σ H Q ⟨B, μ, ρ, st, hB, N, W⟩ => ?_
  simp only [evI] at W
  rw [ev2] at W
  refine go (R := repDs) (fun ρ st => evEs C ρ (.cons c (.cons d .nil)) st) hB N W fun μ1 st1 f x H1 L N1 ra W => ?_
  split at W
  · split at W
    · rename_i i j
      obtain ⟨v, _, rfl, r1, w, _, rfl, r2, rfl⟩ := ra
      cases r1; cases r2
      split at W
      · rename_i hj
        exact ⟨i, j, rfl, ⟨hj.1.1, hj.1.2, hj.2.1, hj.2.2⟩, W.here N1.st (Wk.rang i j)⟩
      · exact W.not.elim
    · exact W.not.elim
  · exact W.not.elim
theorem pi_enm {x : Str} (G : Good T C k X) (ht : isTup tg = true) (h1 : callB X.env.scope x = true) (h2 : x = ("enumerate" : Str)) (h3 : T.bs.contains x = true) (hs : notStar e = true) (he : PE X e (tE X.K C c)) : PI X tg (.Call (.Name x p) [e] [] pos) (tI X.K C (.enum c)) := by
  obtain ⟨g1, g2, g3⟩ := call_of h1
  have hm := G.bs x h3
  subst h2
  cases tg <;> first | (cases ht; done) | skip
  refine PI.imp' (pi_enum g1 hm (pa_one' (es := []) hs he) (by rw [star_of hs]; rfl)) fun σ H Q ⟨B, μ, ρ, st, hB, N, W⟩ => ?_
  simp only [evI] at W
  have W2 : Wd B H μ repW ((evEs C ρ (.cons c .nil) st).bind fun ds st => match ds with
    | [f] => .of ((wlkL f st).map fun w => ⟨enumL 0 w.xs, w.ats⟩) st
    | _ => .no) Q := Wd.eq (by simp only [evEs, bind_assoc, bnd_ok]) W
  refine go (R := repDs) (fun ρ st => evEs C ρ (.cons c .nil) st) hB N W2 fun μ1 st1 f x H1 L N1 ra W => ?_
  split at W
  · obtain ⟨v, _, rfl, r1, rfl⟩ := ra
    obtain ⟨w, e1, W⟩ := W.ofW
    obtain ⟨w0, e2, e3⟩ := Option.map_eq_some_iff.mp e1
    cases e3
    obtain ⟨h1, h2⟩ := wlk_of e2
    obtain ⟨q, vs, rfl, hs, r2⟩ := lro_rep N1.st h2 r1
    exact ⟨q, vs, rfl, hB ▸ hs, hB ▸ W.here N1.st (Wk.enum h1 r1)⟩
  · exact W.not.elim
theorem pi_zp {x : Str} (G : Good T C k X) (ht : isTup tg = true) (h1 : callB X.env.scope x = true) (h2 : x = ("zip" : Str)) (h3 : T.bs.contains x = true) (hs : notStar e1 = true) (hs2 : notStar e2 = true) (he : PE X e1 (tE X.K C c)) (hd : PE X e2 (tE X.K C d)) :
    PI X tg (.Call (.Name x p) [e1, e2] [] pos) (tI X.K C (.zip c d)) := by
  obtain ⟨g1, g2, g3⟩ := call_of h1
  have hm := G.bs x h3
  subst h2
  cases tg <;> first | (cases ht; done) | skip
  refine PI.imp' (RZ.pi_zipA g1 hm (pa_cons' hs he (pa_one' (es := []) hs2 hd)) (by rw [star_of hs]) (by rw [star_of hs2]; rfl)) fun σ H Q ⟨B, μ, ρ, st, hB, N, W⟩ => ?_
  simp only [evI] at W
  rw [ev2] at W
  refine go (R := repDs) (fun ρ st => evEs C ρ (.cons c (.cons d .nil)) st) hB N W fun μ1 st1 f x H1 L N1 ra W => ?_
  split at W
  · split at W
    · obtain ⟨v, _, rfl, r1, w, _, rfl, r2, rfl⟩ := ra
      obtain ⟨q, vs, rfl, hs, r3⟩ := sqT_of r1
      obtain ⟨q2, vs2, rfl, hs2, r4⟩ := sqT_of r2
      exact ⟨q, q2, vs, vs2, rfl, .inr ⟨hB ▸ hs, hB ▸ hs2, hB ▸ W.here N1.st (Wk.zipT r1 r2)⟩⟩
    · obtain ⟨v, _, rfl, r1, w, _, rfl, r2, rfl⟩ := ra
      obtain ⟨w, e1, W⟩ := W.ofW
      obtain ⟨w1, e2, e3⟩ := Option.bind_eq_some_iff.mp e1
      obtain ⟨w2, e4, e5⟩ := Option.map_eq_some_iff.mp e3
      cases e5
      obtain ⟨h1, h2⟩ := wlk_of e2
      obtain ⟨h3, h4⟩ := wlk_of e4
      obtain ⟨q, vs, rfl, hs, r3⟩ := lro_rep N1.st h2 r1
      obtain ⟨q2, vs2, rfl, hs2, r4⟩ := lro_rep N1.st h4 r2
      exact ⟨q, q2, vs, vs2, rfl, .inl ⟨hB ▸ hs, hB ▸ hs2, hB ▸ W.here N1.st (Wk.zipL h1 r1 h3 r2)⟩⟩
  · exact W.not.elim
end
end Rx

set_option Elab.async false
set_option linter.all false
set_option maxRecDepth 100000
set_option maxHeartbeats 400000
set_option autoImplicit false
namespace Rx
open PySem L2 TL

section
variable {T : Tab} {C : CallF} {k : Nat}
theorem okEs_len {N : List Str} {sc : Scope} {t : Bool} : ∀ (cs : Es) (es : List Expr), okEs T N cs sc t es = true → es = [] → cs = .nil
  | .nil, _, _, _ => rfl
  | .cons _ _, [], h, _ => by cases h
  | .cons _ _, _ :: _, _, h => by cases h
theorem blk_fn {X : Cx} {s : Shared} {H : Hp} {scope : Scope} {cl : List (Str × Addr)} {c0 : Addr} {fp : List Addr} (x : Str) (h : locB scope x = true) :
    (X.blk s H scope (compEnvC scope cl c0 X.env) fp).fn x = true ∨ (X.blk s H scope (compEnvC scope cl c0 X.env) fp).env.scope.names.lookup x = some .local := by
  unfold locB at h
  split at h
  · rename_i q
    exact .inr (lookup_relabel_local q)
  · rename_i q
    exact .inl (show (scope.names.lookup x == some .cell) = true by rw [q]; rfl)
  · cases h
theorem okK_facts {N : List Str} {sc : Scope} {K : PySem.W.Frag} : ∀ (n : Nat) (cs : Es) (ks : List (Option Expr)) (vs : List Expr), esLen cs ≤ n → okK T N cs sc ks vs = true →
    ks.all (·.isSome) = true ∧ ks.length = vs.length ∧ (trsOf K C cs).length * 2 = esLen cs ∧ (ks = [] → cs = .nil ∧ vs = []) ∧ ks.length = (trsOf K C cs).length
  | n, .nil, ks, vs, _, h => by
    simp only [okK, Bool.and_eq_true, List.isEmpty_iff] at h
    obtain ⟨rfl, rfl⟩ := h
    exact ⟨rfl, rfl, rfl, fun _ => ⟨rfl, rfl⟩, rfl⟩
  | n, .cons c .nil, ks, vs, _, h => by simp [okK] at h
  | 0, .cons c (.cons d r), ks, vs, hn, h => by simp [esLen] at hn
  | n + 1, .cons c (.cons d r), [], vs, hn, h => by simp [okK] at h
  | n + 1, .cons c (.cons d r), none :: ks, vs, hn, h => by simp [okK] at h
  | n + 1, .cons c (.cons d r), some x :: ks, [], hn, h => by simp [okK] at h
  | n + 1, .cons c (.cons d r), some x :: ks, y :: vs, hn, h => by
    simp only [okK, Bool.and_eq_true] at h
    obtain ⟨h1, h2, h3, h4, h5⟩ := okK_facts (K := K) n r ks vs (by simp only [esLen] at hn; omega) h.2
    refine ⟨by simpa using h1, by rw [List.length_cons, List.length_cons, h2], ?_, (fun z => by cases z), ?_⟩
    · simp only [trsOf, esLen, List.length_cons]; omega
    · simp only [trsOf, List.length_cons]; omega
mutual
theorem soundE : ∀ (c : E) {X : Cx} (G : Good T C k X) (t : Bool) (e : Expr), okE T X.N c X.env.scope t e = true → Snd X C t c e
  | .lit d, X, G, t, e, h => by
    cases e <;> simp only [okE] at h <;> first | (cases h; done) | skip
    exact snd_lit h
  | .glo d, X, G, t, e, h => by
    cases e <;> simp only [okE] at h <;> first | (cases h; done) | skip
    rw [Bool.and_eq_true] at h
    obtain ⟨p, hp, h2⟩ := List.any_eq_true.mp h.2
    rw [Bool.and_eq_true, decide_eq_true_eq] at h2
    obtain ⟨q1, q2⟩ := h2
    have q3 := same_eq _ _ q2
    obtain ⟨px, pd⟩ := p
    cases q1; cases q3
    exact snd_glo G h.1 hp
  | .var i, X, G, t, e, h => by
    cases e <;> simp only [okE] at h <;> first | (cases h; done) | skip
    simp only [Bool.and_eq_true, decide_eq_true_eq] at h
    exact snd_var h.1.1 h.1.2 h.2
  | .bop o m a b, X, G, t, e, h => by
    cases e <;> simp only [okE] at h <;> first | (cases h; done) | skip
    simp only [Bool.and_eq_true, decide_eq_true_eq] at h
    obtain ⟨⟨h1, h2⟩, h3⟩ := h
    subst h1
    exact snd_bop ((soundE a G false _ h2).1 rfl) ((soundE b G false _ h3).1 rfl)
  | .neg a, X, G, t, e, h => by
    cases e with
    | UnaryOp op x p =>
      cases op <;> simp only [okE] at h <;> first | (cases h; done) | skip
      exact snd_neg ((soundE a G false _ h).1 rfl)
    | _ => simp only [okE] at h; cases h
  | .inot a, X, G, t, e, h => by
    cases e with
    | UnaryOp op x p =>
      cases op <;> simp only [okE] at h <;> first | (cases h; done) | skip
      exact snd_not (soundE a G t _ h)
    | _ => simp only [okE] at h; cases h
  | .tru a, X, G, t, e, h => by
    simp only [okE, Bool.and_eq_true] at h
    exact snd_tru h.1.1 h.1.2 ((soundE a G false _ h.2).1 rfl)
  | .cmp o a b, X, G, t, e, h => by
    unfold okE at h
    split at h
    · simp only [Bool.and_eq_true, decide_eq_true_eq] at h
      obtain ⟨⟨⟨h1, h2⟩, h3⟩, h4⟩ := h
      subst h1
      exact snd_cmp G h2 ((soundE a G false _ h3).1 rfl) ((soundE b G false _ h4).1 rfl)
    · cases h
  | .chn o p a b c, X, G, t, e, h => by
    unfold okE at h
    split at h
    · simp only [Bool.and_eq_true, decide_eq_true_eq] at h
      obtain ⟨⟨⟨⟨⟨⟨h1, h2⟩, h3⟩, h4⟩, h5⟩, h6⟩, h7⟩ := h
      subst h1 h2
      exact snd_chn G h3 h4 ((soundE a G false _ h5).1 rfl) ((soundE b G false _ h6).1 rfl) ((soundE c G false _ h7).1 rfl)
    · cases h
  | .ands es, X, G, t, e, h => by
    cases e with
    | BoolOp op vs p =>
      cases op <;> simp only [okE] at h <;> first | (cases h; done) | skip
      refine ⟨fun ht => ?_, fun ht => ?_⟩
      · subst ht
        exact PE.imp (soundAnd es G p vs h) fun σ H Q ⟨B, μ, ρ, st, hB, N, W⟩ => ⟨B, μ, ρ, st, hB, N, Wd.eq (by simp only [evE]) W⟩
      · subst ht
        exact PT.imp (soundAndB es G p vs h).pt fun σ H Q ⟨B, μ, ρ, st, hB, N, W⟩ => ⟨B, μ, ρ, st, hB, N, Wd.eq (by simp only [evE]) W⟩
    | _ => simp only [okE] at h; cases h
  | .ors es, X, G, t, e, h => by
    cases e with
    | BoolOp op vs p =>
      cases op <;> simp only [okE] at h <;> first | (cases h; done) | skip
      refine ⟨fun ht => ?_, fun ht => ?_⟩
      · subst ht
        exact PE.imp (soundOr es G p vs h) fun σ H Q ⟨B, μ, ρ, st, hB, N, W⟩ => ⟨B, μ, ρ, st, hB, N, Wd.eq (by simp only [evE]) W⟩
      · subst ht
        exact PT.imp (soundOrB es G p vs h).pt fun σ H Q ⟨B, μ, ρ, st, hB, N, W⟩ => ⟨B, μ, ρ, st, hB, N, Wd.eq (by simp only [evE]) W⟩
    | _ => simp only [okE] at h; cases h
  | .ite c a b, X, G, t, e, h => by
    cases e <;> simp only [okE] at h <;> first | (cases h; done) | skip
    simp only [Bool.and_eq_true] at h
    obtain ⟨⟨⟨h1, h2⟩, h3⟩, h4⟩ := h
    exact snd_ite (by simpa using h1) ((soundE c G true _ h2).2 rfl) ((soundE a G false _ h3).1 rfl) ((soundE b G false _ h4).1 rfl)
  | .tup es, X, G, t, e, h => by
    cases e <;> simp only [okE] at h <;> first | (cases h; done) | skip
    exact snd_tup (soundEs es G _ h)
  | .lst m es, X, G, t, e, h => by
    cases e <;> simp only [okE] at h <;> first | (cases h; done) | skip
    exact snd_lst (soundEs es G _ h)
  | .dct m es, X, G, t, e, h => by
    cases e <;> simp only [okE] at h <;> first | (cases h; done) | skip
    rw [Bool.and_eq_true, decide_eq_true_eq] at h
    obtain ⟨h1, h2, h3, h4, h5⟩ := okK_facts (C := C) (K := X.K) _ es _ _ (Nat.le_refl _) h.1
    exact snd_dct (soundK es G _ _ _ h.1) h1 h2 h3 h4 h.2
  | .ix a i, X, G, t, e, h => by
    cases e <;> simp only [okE] at h <;> first | (cases h; done) | skip
    simp only [Bool.and_eq_true] at h
    obtain ⟨⟨h1, h2⟩, h3⟩ := h
    exact snd_ix h1 ((soundE a G false _ h2).1 rfl) ((soundE i G false _ h3).1 rfl)
  | .sl m a lo hi, X, G, t, e, h => by
    unfold okE at h
    split at h
    · simp only [Bool.and_eq_true] at h
      obtain ⟨⟨h1, h2⟩, h3⟩ := h
      exact snd_sl ((soundE a G false _ h1).1 rfl) (soundO lo G _ h2) (soundO hi G _ h3)
    · cases h
  | .call f es, X, G, t, e, h => by
    unfold okE at h
    split at h
    · simp only [Bool.and_eq_true, decide_eq_true_eq] at h
      obtain ⟨⟨h1, h2⟩, h3⟩ := h
      exact snd_call G h1 h2 (okEs_stars _ _ h3) (okEs_len _ _ h3) (soundEs es G _ h3)
    · cases h
  | .bi b m es, X, G, t, e, h => by
    unfold okE at h
    split at h
    · simp only [Bool.and_eq_true, decide_eq_true_eq] at h
      obtain ⟨⟨⟨⟨h1, h2⟩, h3⟩, h4⟩, h5⟩ := h
      exact snd_bi G h1 h2 h3 (by simpa using h4) (okEs_stars _ _ h5) (soundEs es G _ h5)
    · cases h
  | .isi a ty, X, G, t, e, h => by
    unfold okE at h
    split at h
    · simp only [Bool.and_eq_true, decide_eq_true_eq] at h
      obtain ⟨⟨⟨⟨⟨⟨⟨h1, h2⟩, h3⟩, h4⟩, h5⟩, h6⟩, h7⟩, h8⟩ := h
      exact snd_isi G h1 h2 h3 h4 h5 h6 h7 ((soundE a G false _ h8).1 rfl)
    · cases h
  | .me f m o es, X, G, t, e, h => by
    unfold okE at h
    split at h
    · simp only [Bool.and_eq_true, decide_eq_true_eq] at h
      obtain ⟨⟨⟨⟨⟨h1, h2⟩, h3⟩, h4⟩, h5⟩, h6⟩ := h
      refine snd_me G h1 h2 h3 h4 (okEs_stars _ _ h6) ((soundE o G false _ h5).1 rfl) (soundEs es G _ h6) (fun e he => ?_) fun e g he => ?_
      · subst he
        exact sound1 es G e h6
      · subst he
        exact sound2 es G e g h6
    · cases h
  | .lc m elt tg it c own, X, G, t, e, h => by
    unfold okE at h
    split at h
    · simp only [Bool.and_eq_true, List.all_eq_true, decide_eq_true_eq] at h
      obtain ⟨⟨⟨⟨⟨⟨⟨⟨h1, h2⟩, h3⟩, h4⟩, h5⟩, h6⟩, h7⟩, h8⟩, h9⟩ := h
      refine snd_lc G h1 (fun j hj => by simpa using h3 j hj) (soundI it G _ _ h7) h6 (fun s H c0 cl fp => ?_) (fun s H c0 cl fp => ?_) (fun s H c0 cl fp => ?_)
      · exact pg_of (sc2 := _) G.nd G.calm (fun x hx => blk_fn x hx) h4 h5
      · exact soundC c (G.blk s H _ _ fp) _ h8
      · exact (soundE elt (G.blk s H _ _ fp) false _ h9).1 rfl
    · cases h
theorem soundEs : ∀ (cs : Es) {X : Cx} (G : Good T C k X) (es : List Expr), okEs T X.N cs X.env.scope false es = true → PA X es (tEs X.K C cs)
  | .nil, X, G, es, h => by
    simp only [okEs, List.isEmpty_iff] at h
    subst h
    exact pa_nil'
  | .cons c cs, X, G, es, h => by
    cases es <;> simp only [okEs] at h <;> first | (cases h; done) | skip
    simp only [Bool.and_eq_true] at h
    exact pa_cons' h.1.1 ((soundE c G false _ h.1.2).1 rfl) (soundEs cs G _ h.2)
theorem sound1 : ∀ (cs : Es) {X : Cx} (G : Good T C k X) (e : Expr), okEs T X.N cs X.env.scope false [e] = true → ∃ c, cs = .cons c .nil ∧ PE X e (tE X.K C c)
  | .nil, X, G, e, h => by cases h
  | .cons c .nil, X, G, e, h => by
    simp only [okEs, Bool.and_eq_true] at h
    exact ⟨c, rfl, (soundE c G false _ h.1.2).1 rfl⟩
  | .cons c (.cons d r), X, G, e, h => by simp [okEs] at h
theorem sound2 : ∀ (cs : Es) {X : Cx} (G : Good T C k X) (e g : Expr), okEs T X.N cs X.env.scope false [e, g] = true → ∃ c d, cs = .cons c (.cons d .nil) ∧ PE X e (tE X.K C c) ∧ PE X g (tE X.K C d)
  | .nil, X, G, e, g, h => by cases h
  | .cons c .nil, X, G, e, g, h => by simp [okEs] at h
  | .cons c (.cons d .nil), X, G, e, g, h => by
    simp only [okEs, Bool.and_eq_true] at h
    exact ⟨c, d, rfl, (soundE c G false _ h.1.2).1 rfl, (soundE d G false _ h.2.1.2).1 rfl⟩
  | .cons c (.cons d (.cons _ _)), X, G, e, g, h => by simp [okEs] at h
theorem soundAnd : ∀ (cs : Es) {X : Cx} (G : Good T C k X) (p : Pos) (es : List Expr), okEs T X.N cs X.env.scope false es = true → PE X (.BoolOp .And es p) (tAnd' X.K C cs)
  | .nil, X, G, p, es, h => and_nil fun σ H Q ⟨B, μ, ρ, st, hB, N, W⟩ => by simp only [evAnd] at W; exact W.not
  | .cons c .nil, X, G, p, es, h => by
    cases es with
    | nil => cases h
    | cons e es =>
      simp only [okEs, Bool.and_eq_true, List.isEmpty_iff] at h
      obtain ⟨⟨_, h1⟩, rfl⟩ := h
      exact pe_and1 ((soundE c G false _ h1).1 rfl)
  | .cons c (.cons d r), X, G, p, es, h => by
    cases es with
    | nil => cases h
    | cons e es =>
      unfold okEs at h
      simp only [Bool.and_eq_true] at h
      have := soundAnd (.cons d r) G p es h.2
      cases es with
      | nil => cases h.2
      | cons f es => exact pe_andC ((soundE c G false _ h.1.2).1 rfl) this
theorem soundOr : ∀ (cs : Es) {X : Cx} (G : Good T C k X) (p : Pos) (es : List Expr), okEs T X.N cs X.env.scope false es = true → PE X (.BoolOp .Or es p) (tOr' X.K C cs)
  | .nil, X, G, p, es, h => and_nil fun σ H Q ⟨B, μ, ρ, st, hB, N, W⟩ => by simp only [evOr] at W; exact W.not
  | .cons c .nil, X, G, p, es, h => by
    cases es with
    | nil => cases h
    | cons e es =>
      simp only [okEs, Bool.and_eq_true, List.isEmpty_iff] at h
      obtain ⟨⟨_, h1⟩, rfl⟩ := h
      exact pe_or1 ((soundE c G false _ h1).1 rfl)
  | .cons c (.cons d r), X, G, p, es, h => by
    cases es with
    | nil => cases h
    | cons e es =>
      unfold okEs at h
      simp only [Bool.and_eq_true] at h
      have := soundOr (.cons d r) G p es h.2
      cases es with
      | nil => cases h.2
      | cons f es => exact pe_orC ((soundE c G false _ h.1.2).1 rfl) this
theorem soundAndB : ∀ (cs : Es) {X : Cx} (G : Good T C k X) (p : Pos) (es : List Expr), okEs T X.N cs X.env.scope true es = true → PW X (.BoolOp .And es p) (tAndB X.K C cs)
  | .nil, X, G, p, es, h => ⟨fun wh pins s σ H Q I ⟨B, μ, ρ, st, hB, N, W⟩ => by simp only [evAnd] at W; exact W.not.elim⟩
  | .cons c .nil, X, G, p, es, h => by
    cases es with
    | nil => cases h
    | cons e es =>
      simp only [okEs, Bool.and_eq_true, List.isEmpty_iff] at h
      obtain ⟨⟨_, h1⟩, rfl⟩ := h
      exact pw_and1' ((soundE c G true _ h1).2 rfl)
  | .cons c (.cons d r), X, G, p, es, h => by
    cases es with
    | nil => cases h
    | cons e es =>
      unfold okEs at h
      simp only [Bool.and_eq_true] at h
      have := soundAndB (.cons d r) G p es h.2
      cases es with
      | nil => cases h.2
      | cons f es => exact pw_andC ((soundE c G true _ h.1.2).2 rfl) this
theorem soundOrB : ∀ (cs : Es) {X : Cx} (G : Good T C k X) (p : Pos) (es : List Expr), okEs T X.N cs X.env.scope true es = true → PW X (.BoolOp .Or es p) (tOrB X.K C cs)
  | .nil, X, G, p, es, h => ⟨fun wh pins s σ H Q I ⟨B, μ, ρ, st, hB, N, W⟩ => by simp only [evOr] at W; exact W.not.elim⟩
  | .cons c .nil, X, G, p, es, h => by
    cases es with
    | nil => cases h
    | cons e es =>
      simp only [okEs, Bool.and_eq_true, List.isEmpty_iff] at h
      obtain ⟨⟨_, h1⟩, rfl⟩ := h
      exact pw_or1' ((soundE c G true _ h1).2 rfl)
  | .cons c (.cons d r), X, G, p, es, h => by
    cases es with
    | nil => cases h
    | cons e es =>
      unfold okEs at h
      simp only [Bool.and_eq_true] at h
      have := soundOrB (.cons d r) G p es h.2
      cases es with
      | nil => cases h.2
      | cons f es => exact pw_orC ((soundE c G true _ h.1.2).2 rfl) this
theorem soundK : ∀ (cs : Es) {X : Cx} (G : Good T C k X) (pos : Pos) (ks : List (Option Expr)) (vs : List Expr), okK T X.N cs X.env.scope ks vs = true → PPs X pos ks vs (trsOf X.K C cs)
  | .nil, X, G, pos, ks, vs, h => by
    simp only [okK, Bool.and_eq_true, List.isEmpty_iff] at h
    obtain ⟨rfl, rfl⟩ := h
    exact pps_nil
  | .cons c .nil, X, G, pos, ks, vs, h => by simp [okK] at h
  | .cons c (.cons d r), X, G, pos, ks, vs, h => by
    unfold okK at h
    split at h
    · simp only [Bool.and_eq_true] at h
      exact pps_cons ((soundE c G false _ h.1.1).1 rfl) ((soundE d G false _ h.1.2).1 rfl) (soundK r G pos _ _ h.2)
    · cases h
theorem soundO : ∀ (c : Oe) {X : Cx} (G : Good T C k X) (e : Option Expr), okO T X.N c X.env.scope e = true → PO X e (tO X.K C c)
  | .non, X, G, e, h => by
    cases e with
    | none => exact po_none'
    | some e => cases h
  | .som c, X, G, e, h => by
    cases e with
    | none => cases h
    | some e => exact po_some' ((soundE c G false _ h).1 rfl)
theorem soundC : ∀ (c : Oe) {X : Cx} (G : Good T C k X) (es : List Expr), okC T X.N c X.env.scope es = true → PTs X es (tC' X.K C c)
  | .non, X, G, es, h => by
    simp only [okC, List.isEmpty_iff] at h
    subst h
    exact pts_none'
  | .som c, X, G, es, h => by
    unfold okC at h
    split at h
    · exact pts_some' ((soundE c G true _ h).2 rfl)
    · cases h
theorem soundI : ∀ (c : I) {X : Cx} (G : Good T C k X) (g e : Expr), okI T X.N c X.env.scope g e = true → PI X g e (tI X.K C c)
  | .it c, X, G, g, e, h => by
    simp only [okI] at h
    exact pi_it ((soundE c G false _ h).1 rfl)
  | .rng c, X, G, g, e, h => by
    unfold okI at h
    split at h
    · simp only [Bool.and_eq_true, decide_eq_true_eq] at h
      obtain ⟨⟨⟨⟨h1, h2⟩, h3⟩, h4⟩, h5⟩ := h
      exact pi_rng G h1 h2 h3 h4 ((soundE c G false _ h5).1 rfl)
    · cases h
  | .rng2 c d, X, G, g, e, h => by
    unfold okI at h
    split at h
    · simp only [Bool.and_eq_true, decide_eq_true_eq] at h
      obtain ⟨⟨⟨⟨⟨⟨h1, h2⟩, h3⟩, h4⟩, h5⟩, h6⟩, h7⟩ := h
      exact pi_rng2 G h1 h2 h3 h4 h5 ((soundE c G false _ h6).1 rfl) ((soundE d G false _ h7).1 rfl)
    · cases h
  | .enum c, X, G, g, e, h => by
    unfold okI at h
    split at h
    · simp only [Bool.and_eq_true, decide_eq_true_eq] at h
      obtain ⟨⟨⟨⟨⟨h0, h1⟩, h2⟩, h3⟩, h4⟩, h5⟩ := h
      exact pi_enm G h0 h1 h2 h3 h4 ((soundE c G false _ h5).1 rfl)
    · cases h
  | .zip c d, X, G, g, e, h => by
    unfold okI at h
    split at h
    · simp only [Bool.and_eq_true, decide_eq_true_eq] at h
      obtain ⟨⟨⟨⟨⟨⟨⟨h0, h1⟩, h2⟩, h3⟩, h4⟩, h5⟩, h6⟩, h7⟩ := h
      exact pi_zp G h0 h1 h2 h3 h4 h5 ((soundE c G false _ h6).1 rfl) ((soundE d G false _ h7).1 rfl)
    · cases h
end
end
end Rx

set_option Elab.async false
set_option linter.all false
set_option maxRecDepth 100000
set_option maxHeartbeats 400000
set_option autoImplicit false
namespace Rx
open PySem L2 TL

/-! ### statements -/
abbrev FV := L2.St ⊕ V
def repF : RR Fl FV := fun B H μ f x => match f, x with
  | .nx ρ, .inl σ => ρ.length = σ.length ∧ ∀ (i : Nat) (d : D), ρ[i]? = some (some d) → ∃ v, σ[i]? = some (some v) ∧ Rep B H μ d v
  | .rt d, .inr v => Rep B H μ d v
  | _, _ => False
def QD (D : Ends) : FV → Hp → Prop := fun x H => match x with
  | .inl σ => D.nx σ H
  | .inr v => D.rt v H
def tS (K : PySem.W.Frag) (C : CallF) (s : S) : TS := fun D σ H => tR K repF (fun ρ st => evS C s ρ st) σ H (QD D)
def tSs (K : PySem.W.Frag) (C : CallF) (s : Ss) : TS := fun D σ H => tR K repF (fun ρ st => evSs C s ρ st) σ H (QD D)
section
variable {T : Tab} {C : CallF} {k : Nat} {X : Cx} {e e1 e2 e3 : Expr} {a b c : E} {pos : Pos}
section
variable {B : Bg} {H : Hp} {μ : List Addr} {ρ : Slots} {σ : L2.St} {st : Store} {D : Ends} {v : V} {d : Rx.D}
theorem endN (W : Wd B H μ repF (.ok (.nx ρ) st) (QD D)) (N : Now B H μ ρ σ st) : D.nx σ H := Wd.here (x := (Sum.inl σ : FV)) W N.st (show repF B H μ (.nx ρ) (.inl σ) from And.intro N.len N.sl)
theorem endL {H' : Hp} {μ' : List Addr} (W : Wd B H μ repF (.ok (.nx ρ) st) (QD D)) (L : Later H μ H' μ') (N : Now B H' μ' ρ σ st) : D.nx σ H' := by
  obtain ⟨d, st', e, kk⟩ := W
  cases e
  exact kk (.inl σ) H' μ' L N.st (show repF B H' μ' (.nx ρ) (.inl σ) from And.intro N.len N.sl)
theorem endR (W : Wd B H μ repF (.ok (.rt d) st) (QD D)) (S : StOk B H μ st) (r : Rep B H μ d v) : D.rt v H := Wd.here (x := (Sum.inr v : FV)) W S (show repF B H μ (.rt d) (.inr v) from r)
end
theorem ps_ret' (h : PE X e (tE X.K C c)) : PS X (.Return (some e) pos) (tS X.K C (.ret c)) := PS.imp (ps_ret h) fun D σ H ⟨B, μ, ρ, st, hB, N, W⟩ => by
  simp only [evS] at W
  exact go (R := repD) (fun ρ st => evE C ρ c st) hB N W fun μ1 st1 d x H1 L N1 ra W => endR W N1.st ra
theorem ps_retN' : PS X (.Return none pos) (tS X.K C .retN) := PS.imp ps_retN fun D σ H ⟨B, μ, ρ, st, hB, N, W⟩ => by
  simp only [evS] at W
  exact endR W N.st rfl
theorem ps_expr' (hs : notC e = true) (h : PE X e (tE X.K C c)) : PS X (.Expr e pos) (tS X.K C (.expr c)) := PS.imp (ps_expr h (swap_none hs)) fun D σ H ⟨B, μ, ρ, st, hB, N, W⟩ => by
  simp only [evS] at W
  exact go (R := repD) (fun ρ st => evE C ρ c st) hB N W fun μ1 st1 d x H1 L N1 ra W => endN W N1
theorem ps_pass' : PS X (.Pass pos) (tS X.K C .pass) := PS.imp ps_pass fun D σ H ⟨B, μ, ρ, st, hB, N, W⟩ => by
  simp only [evS] at W
  exact endN W N
theorem asg_ok {g : Tg} (D : Ends) (σ : L2.St) (H : Hp) (w : tS X.K C (.asg g c) D σ H) : tAsg (tE X.K C c) (gR X.K g) D σ H := by
  obtain ⟨B, μ, ρ, st, hB, N, W⟩ := w
  simp only [evS] at W
  refine go (R := repD) (fun ρ st => evE C ρ c st) hB N W fun μ1 st1 d x H1 L N1 ra W => ?_
  split at W
  · rename_i ρ' hb
    exact hB ▸ bind_ok hb ra N1 fun σ' N' _ => endN W N'
  · exact W.not.elim
theorem swaps_sole {t v : Expr} {l : Nat} : swapsWithSole [t] v l X.env = swapsWith v (some t) l X.env := rfl
theorem stores_none {is : List Nat} {es : List Expr} {j : Nat} {p : Pos} (hp : notPair e = true) : swappedStores [.Tuple es j p] e X.env = pure none := by
  cases e <;> first | rfl | cases hp
theorem ps_asg' {tg : Expr} {g : Tg} (hN : X.N.Nodup) (hc : X.calm = true) (hf : ∀ x, X.fn x = true) (hs : notC e = true) (hp : (match g with | .nm _ => true | .tu _ => notPair e) = true) (ht : tgB X.N X.env.scope g tg = true) (h : PE X e (tE X.K C c)) :
    PS X (.Assign [tg] e pos) (tS X.K C (.asg g c)) := by
  have pg := pg_of (sc2 := X.env.scope) hN hc (fun x _ => .inl (hf x)) ht ht
  refine PS.imp ?_ asg_ok
  cases g with
  | nm i =>
    cases tg <;> first | (cases ht; done) | skip
    exact ps_asg h pg (by rw [swaps_sole]; exact swap_none hs) (by cases e <;> rfl) rfl
  | tu is =>
    cases tg <;> first | (cases ht; done) | skip
    exact ps_asg h pg (by rw [swaps_sole]; exact swap_none hs) (stores_none (is := is) hp) rfl
theorem swap_of {v t : Expr} {l : Nat} {sc : Scope} (h : swapB sc v t l = true) : ∃ elt gs s p y py, v = .ListComp elt gs s p ∧ t = .Name y py ∧ sc.names.lookup y = some .local ∧ (py.line == p.line) = true ∧ (s.names.any fun (n, k) => n == y && (k == .local || k == .cell)) = false := by
  unfold swapB at h
  split at h
  · split at h
    · simp only [Bool.and_eq_true, Bool.not_eq_true'] at h
      refine ⟨_, _, _, _, _, _, rfl, rfl, ?_, h.1.2, h.2⟩
      have := h.1.1
      split at this
      · assumption
      · cases this
    · cases h
  · cases h
/-- o[i] = v -/
theorem ps_put {c : E} (hs : notC e3 = true) (hi : notSlice e2 = true) {p : Pos} (ho : PE X e1 (tE X.K C a)) (hx : PE X e2 (tE X.K C b)) (h : PE X e3 (tE X.K C c)) : PS X (.Assign [.Subscript e1 e2 p] e3 pos) (tS X.K C (.put a b c)) := by
  have pg : PG X (.Subscript e1 e2 p) (gSub (tE X.K C a) (tE X.K C b) rSetL) := pg_sub ho hx set_list (by intro v; cases e2 <;> first | rfl | cases hi)
  refine PS.imp (ps_asg h pg (by rw [swaps_sole]; exact swap_none hs) (by cases e3 <;> rfl) rfl) fun D σ H ⟨B, μ, ρ, st, hB, N, W⟩ => ?_
  simp only [evS] at W
  refine go (R := repD) (fun ρ st => evE C ρ c st) hB N W fun μ1 st1 d x H1 L N1 ra W1 => ?_
  show tE X.K C a σ H1 _
  refine go (R := repD) (fun ρ st => evE C ρ a st) hB N1 W1 fun μ2 st2 d2 x2 H2 L2 N2 rb W2 => ?_
  refine go (R := repD) (fun ρ st => evE C ρ b st) hB N2 W2 fun μ3 st3 d3 x3 H3 L3 N3 rc W3 => ?_
  clear W W1 W2
  have W := W3
  clear W3
  split at W
  · rename_i n i
    obtain ⟨q, rfl, h1⟩ := Rep.mono L3 _ _ rb
    cases rc
    split at W
    · rename_i xs hx
      split at W
      · rename_i j hj
        obtain ⟨q', h2, cc⟩ := N3.st.of hx
        rw [h1] at h2; cases h2
        obtain ⟨vs, h3, r3⟩ := cc
        refine ⟨q, vs, i, j, rfl, rfl, h3, by rw [r3.length]; exact hj, ?_⟩
        have LL : Later H3 μ3 (upd H3 q (.lst (vs.set j x))) μ3 := Later.upd (List.mem_of_getElem? h1)
        have cell : CellOk B (upd H3 q (.lst (vs.set j x))) μ3 q (.lst (xs.set j d)) := ⟨_, upd_same, ?_⟩
        · have N4 : Now B (upd H3 q (.lst (vs.set j x))) μ3 ρ σ (st3.set n (.lst (xs.set j d))) := N3.later LL (N3.st.upd h1 cell)
          exact endL W LL N4
        · have r0 : Rep B (upd H3 q (.lst (vs.set j x))) μ3 d x := Rep.mono ((L2.trans L3).trans LL) _ _ ra
          have r1 : Reps B (upd H3 q (.lst (vs.set j x))) μ3 xs vs := Reps.mono LL _ _ r3
          revert r1
          generalize upd H3 q (.lst (vs.set j x)) = HH at r0
          clear hx h3 r3 hj W LL
          intro r1
          induction xs generalizing vs j with
          | nil => cases r1; exact rfl
          | cons f fs ih =>
            obtain ⟨w, ws, rfl, q1, q2⟩ := r1
            cases j with
            | zero => exact ⟨x, ws, rfl, r0, q2⟩
            | succ j => exact ⟨w, ws.set j x, rfl, q1, ih _ _ q2⟩
      · exact W.not.elim
    · exact W.not.elim
  · exact W.not.elim
theorem ps_iff {p q : Ss} {x y : List Stmt} (hc : PT X e (tT X.K C c)) (h1 : PSs X x (tSs X.K C p)) (h2 : PSs X y (tSs X.K C q)) : PS X (.If e x y pos) (tS X.K C (.iff c p q)) := by
  refine PS.imp (ps_if hc h1 h2) fun D σ H ⟨B, μ, ρ, st, hB, N, W⟩ => ?_
  simp only [evS] at W
  refine go (R := repB) (fun ρ st => (evE C ρ c st).bind boolOf) hB N W fun μ1 st1 d x H1 L N1 ra W => ?_
  cases ra
  by_cases hd : d = true
  · subst hd
    exact iteT ⟨B, μ1, ρ, st1, hB, N1, Wd.eq (by simp) W⟩
  · have hd : d = false := by simpa using hd
    subst hd
    exact iteF ⟨B, μ1, ρ, st1, hB, N1, Wd.eq (by simp) W⟩
theorem pss_cons' {s : S} {ss : Ss} {x : Stmt} {xs : List Stmt} (h1 : PS X x (tS X.K C s)) (h2 : PSs X xs (tSs X.K C ss)) : PSs X (x :: xs) (tSs X.K C (.cons s ss)) := by
  refine PSs.imp (pss_cons h1 h2) fun D σ H ⟨B, μ, ρ, st, hB, N, W⟩ => ?_
  simp only [evSs] at W
  refine ⟨B, μ, ρ, st, hB, N, W.seq.imp fun x H1 ⟨μ1, d, st1, L, S, r, W⟩ => ?_⟩
  cases d with
  | nx ρ' =>
    cases x with
    | inl σ' => exact ⟨B, μ1, ρ', st1, hB, ⟨S, r.1, r.2⟩, W⟩
    | inr v => exact r.elim
  | rt d =>
    cases x with
    | inl σ' => exact r.elim
    | inr v =>
      show D.rt v H1
      exact endR (D := D) W S r
/-! ### for -/
theorem forL_nil {g : Store → Bool} {f : Rx.D → Slots → Store → Rx.Res Fl} {ρ : Slots} {st st' : Store} {x : Fl} (h : forL g f [] ρ st = .ok x st') : g st = true ∧ x = .nx ρ ∧ st' = st := by
  unfold forL at h
  by_cases hg : g st = true
  · rw [if_pos hg] at h; cases h; exact ⟨hg, rfl, rfl⟩
  · rw [if_neg hg] at h; cases h
theorem forL_cons {g : Store → Bool} {f : Rx.D → Slots → Store → Rx.Res Fl} {d : Rx.D} {ds : List Rx.D} {ρ : Slots} {st st' : Store} {x : Fl} (h : forL g f (d :: ds) ρ st = .ok x st') :
    g st = true ∧ ((f d ρ st).bind fun o st => match o with
      | .nx ρ => forL g f ds ρ st
      | .rt v => .ok (.rt v) st) = .ok x st' := by
  unfold forL at h
  by_cases hg : g st = true
  · rw [if_pos hg] at h; exact ⟨hg, h⟩
  · rw [if_neg hg] at h; cases h
theorem ps_for' {tg i : Expr} {g : Tg} {it : I} {bd : Ss} {x : List Stmt} (hp : PassesOwn (model X.prog X.w) X.A X.env X.xe) (hc : X.calm = true) (hs : notSet i = true) (hi : PI X tg i (tI X.K C it)) (hg : PG X tg (gR X.K g)) (hb : PSs X x (tSs X.K C bd)) :
    PS X (.For tg i x [] pos) (tS X.K C (.for_ g it bd)) := by
  refine PS.imp (ps_for hp hc hi hg hb (fold_of hs)) fun D σ H ⟨B, μ, ρ, st, hB, N, W⟩ => ?_
  rw [← hB]
  simp only [evS] at W
  refine go (R := repW) (fun ρ st => evI C ρ it st) rfl N W fun μ1 st1 w J H1 L N1 rw W1 => ?_
  clear W
  refine ⟨fun i mm σc Hc => mm = w.xs.length - i ∧ i ≤ w.xs.length ∧ ∃ μc stc ρc, Wk B Hc μc w J ∧ Now B Hc μc ρc σc stc ∧
    Wd B Hc μc repF (forL (guard w) (fun d ρ st => match bindT g d ρ with
      | none => .no
      | some ρ => evSs C bd ρ st) (w.xs.drop i) ρc stc) (QD D), ⟨_, rfl, Nat.zero_le _, μ1, st1, ρ, rw, N1, W1⟩, ?_⟩
  rintro i mm σc Hc ⟨rfl, hi, μc, stc, ρc, Wc, Nc, ev⟩
  obtain ⟨fl, st', e0, kk⟩ := ev
  by_cases hlt : i < w.xs.length
  · obtain ⟨xd, hx⟩ : ∃ x, w.xs[i]? = some x := ⟨_, List.getElem?_eq_getElem hlt⟩
    rw [drop_at hx] at e0
    obtain ⟨hg, e1⟩ := forL_cons e0
    obtain ⟨t1, t2, t3⟩ := Wc.turn Nc.st hg
    refine .inr ⟨t1 i hlt, _, fun σ' H' h => ⟨w.xs.length - (i + 1), by omega, rfl, hlt, h⟩, fun v H2 yl => ?_⟩
    obtain ⟨x', hx', L2h, S2, r2⟩ := t3 i v H2 hlt yl
    rw [hx] at hx'; cases hx'
    have N2 := Nc.later L2h S2
    cases hbind : bindT g xd ρc with
    | none => rw [hbind] at e1; cases e1
    | some ρ' =>
      rw [hbind] at e1
      refine bind_ok hbind r2 N2 fun σ' N3 _ => ?_
      refine ⟨B, μc, ρ', stc, rfl, N3, ?_⟩
      have W3 : Wd B H2 μc repF ((evSs C bd ρ' stc).bind fun o st => match o with
          | .nx ρ => forL (guard w) (fun d ρ st => match bindT g d ρ with
            | none => .no
            | some ρ => evSs C bd ρ st) (w.xs.drop (i + 1)) ρ st
          | .rt v => .ok (.rt v) st) (QD D) := ⟨fl, st', e1, fun v H' μ' L S r => kk v H' μ' (L2h.trans L) S r⟩
      have W4 := W3.seq (R := repF)
      obtain ⟨f1, s1, e2, k2⟩ := W4
      refine ⟨f1, s1, e2, fun y H' μ' L' S' r' => ?_⟩
      obtain ⟨μ5, f5, s5, L5, S5, r5, W5⟩ := k2 y H' μ' L' S' r'
      have Lall := L2h.trans L5
      cases f5 with
      | nx ρ5 =>
        cases y with
        | inl σ5 => exact ⟨μ5, s5, ρ5, Wc.tran Lall.tr, ⟨S5, r5.1, r5.2⟩, W5⟩
        | inr v => exact r5.elim
      | rt d5 =>
        cases y with
        | inl σ5 => exact r5.elim
        | inr v =>
          show D.rt v H'
          exact endR (D := D) W5 S5 r5
  · have hi' : i = w.xs.length := by omega
    subst hi'
    rw [List.drop_length] at e0
    obtain ⟨hg, rfl, rfl⟩ := forL_nil e0
    obtain ⟨t1, t2, t3⟩ := Wc.turn Nc.st hg
    exact .inl ⟨t2, kk (.inl σc) Hc μc Later.refl Nc.st (show repF B Hc μc (.nx ρc) (.inl σc) from And.intro Nc.len Nc.sl)⟩
theorem pss_nil' : PSs X [] (tSs X.K C .nil) := PSs.imp pss_nil fun D σ H ⟨B, μ, ρ, st, hB, N, W⟩ => by
  simp only [evSs] at W
  exact endN W N
end
end Rx

set_option Elab.async false
set_option linter.all false
set_option maxRecDepth 100000
set_option maxHeartbeats 400000
set_option autoImplicit false
namespace Rx
open PySem L2 TL

section
variable {T : Tab} {C : CallF} {k : Nat} {X : Cx}
theorem ps_asgL {cd : E} {i : Nat} {e t : Expr} {pos : Pos} (G : Good T C k X) (hsw : swapB X.env.scope e t pos.line = true) (hk : X.env.scope.kind = .function) (ht : tgB X.N X.env.scope (.nm i) t = true) (he : okE T X.N cd X.env.scope false e = true) :
    PS X (.Assign [t] e pos) (tAsg (tE X.K C cd) (gName i)) := by
  obtain ⟨elt, gs, s, p, y, py, rfl, rfl, h1, h2, h3⟩ := swap_of hsw
  have sw := sw_true (elt := elt) (gs := gs) (scope := s) (pos := p) (py := py) (y := y) (l := pos.line) (env := X.env) hk h1 h2 h3
  simp only [tgB, Bool.and_eq_true, decide_eq_true_eq] at ht
  cases cd <;> first | (simp [okE, plainT] at he; done) | skip
  unfold okE at he
  split at he
  · rename_i hh
    cases hh
    simp only [Bool.and_eq_true, List.all_eq_true, decide_eq_true_eq] at he
    obtain ⟨⟨⟨⟨⟨⟨⟨⟨h1', h2'⟩, h3'⟩, h4'⟩, h5'⟩, h6'⟩, h7'⟩, h8'⟩, h9'⟩ := he
    refine ps_lc G ht.1 h1 sw h1' (fun j hj => by simpa using h3' j hj) (soundI _ G _ _ h7') h6' (fun s H c0 cl fp => ?_) (fun s H c0 cl fp => ?_) (fun s H c0 cl fp => ?_)
    · exact pg_of (sc2 := _) G.nd G.calm (fun x hx => blk_fn x hx) h4' h5'
    · exact soundC _ (G.blk s H _ _ fp) _ h8'
    · exact (soundE _ (G.blk s H _ _ fp) false _ h9').1 rfl
  · cases he
mutual
theorem soundS (G : Good T C k X) (hp : PassesOwn (model X.prog X.w) X.A X.env X.xe) (hf : ∀ x, X.fn x = true) : ∀ (s : S) (x : Stmt), okS T X.N s X.env.scope x = true → PS X x (tS X.K C s)
  | .ret c, x, h => by
    unfold okS at h
    split at h
    · exact ps_ret' ((soundE c G false _ h).1 rfl)
    · cases h
  | .retN, x, h => by
    unfold okS at h
    split at h
    · exact ps_retN'
    · cases h
  | .expr c, x, h => by
    unfold okS at h
    split at h
    · rw [Bool.and_eq_true] at h
      exact ps_expr' h.1 ((soundE c G false _ h.2).1 rfl)
    · cases h
  | .pass, x, h => by
    unfold okS at h
    split at h
    · exact ps_pass'
    · cases h
  | .asg tg c, x, h => by
    unfold okS at h
    split at h
    · simp only [Bool.and_eq_true] at h
      obtain ⟨⟨⟨h1, h2⟩, h3⟩, h4⟩ := h
      rename_i g e pos
      by_cases hn : notC e = true
      · exact ps_asg' G.nd G.calm hf hn h2 h3 ((soundE c G false _ h4).1 rfl)
      · have h1 : (swapB X.env.scope e g pos.line && (match X.env.scope.kind with | .function => true | _ => false)) = true := by
          cases q : notC e with
          | true => exact absurd q hn
          | false => rw [q] at h1; exact h1
        rw [Bool.and_eq_true] at h1
        have hk : X.env.scope.kind = .function := by
          have := h1.2
          split at this
          · assumption
          · cases this
        cases tg with
        | nm i => exact PS.imp (ps_asgL G h1.1 hk h3 h4) asg_ok
        | tu is =>
          obtain ⟨_, _, _, _, _, _, _, rfl, _⟩ := swap_of h1.1
          simp [tgB] at h3
    · cases h
  | .put o i c, x, h => by
    unfold okS at h
    split at h
    · simp only [Bool.and_eq_true] at h
      obtain ⟨⟨⟨⟨h1, h2⟩, h3⟩, h4⟩, h5⟩ := h
      exact ps_put h1 h2 ((soundE o G false _ h3).1 rfl) ((soundE i G false _ h4).1 rfl) ((soundE c G false _ h5).1 rfl)
    · cases h
  | .iff c a b, x, h => by
    unfold okS at h
    split at h
    · simp only [Bool.and_eq_true] at h
      obtain ⟨⟨h1, h2⟩, h3⟩ := h
      exact ps_iff ((soundE c G true _ h1).2 rfl) (soundSs G hp hf a _ h2) (soundSs G hp hf b _ h3)
    · cases h
  | .for_ tg it b, x, h => by
    unfold okS at h
    split at h
    · simp only [Bool.and_eq_true] at h
      obtain ⟨⟨⟨h0, h1⟩, h2⟩, h3⟩ := h
      exact ps_for' hp G.calm h0 (soundI it G _ _ h2) (pg_of (sc2 := X.env.scope) G.nd G.calm (fun x _ => .inl (hf x)) h1 h1) (soundSs G hp hf b _ h3)
    · cases h
theorem soundSs (G : Good T C k X) (hp : PassesOwn (model X.prog X.w) X.A X.env X.xe) (hf : ∀ x, X.fn x = true) : ∀ (s : Ss) (x : List Stmt), okSs T X.N s X.env.scope x = true → PSs X x (tSs X.K C s)
  | .nil, x, h => by
    simp only [okSs, List.isEmpty_iff] at h
    subst h
    exact pss_nil'
  | .cons s r, x, h => by
    unfold okSs at h
    split at h
    · rw [Bool.and_eq_true] at h
      exact pss_cons' (soundS G hp hf s _ h.1) (soundSs G hp hf r _ h.2)
    · cases h
end
end

/-! ### defs -/
def scB (N P : List Str) (sc : Scope) : Bool :=
  decide (sc.kind = .function) && !sc.isCoroutine && !sc.isGenerator && decide N.Nodup && decide (N.take P.length = P) && P.all (fun x => decide (sc.names.lookup x = some .local) || decide (sc.names.lookup x = some .cell)) && sc.names.all (fun y => !decide (y.2 = .free))
theorem sc_of {N P : List Str} {sc : Scope} (h : scB N P sc = true) : FnScope N P sc := by
  unfold scB at h
  simp only [Bool.and_eq_true, Bool.not_eq_true', decide_eq_true_eq, List.all_eq_true, Bool.or_eq_true, decide_eq_false_iff_not] at h
  obtain ⟨⟨⟨⟨⟨⟨h1, h2⟩, h3⟩, h4⟩, h5⟩, h6⟩, h7⟩ := h
  exact ⟨h1, h2, h3, h4, h5, h6, h7⟩
/-- a def: its name, its text, its code, its names -/
structure Df where
  x : Str
  st : Stmt
  fn : Fn
  N : List Str
def Df.ps (d : Df) : List Str := d.N.take d.fn.np
def okDf (T : Tab) (d : Df) : Bool := scB d.N d.ps (defScope d.st) && okSs T d.N d.fn.body (defScope d.st) (defBody d.st) && decide (d.ps.length = d.fn.np) && decide (d.N.length = d.fn.nn)
structure Have (K : PySem.W.Frag) (mg : Str → Option Value) (d : Df) (f : Addr) (fd : FuncData) : Prop where
  fn : Fun K d.x d.x d.st f fd
  mgf : mg d.x = some (.ref f)
  bnd : Binds K fd d.ps []
structure Env (K : PySem.W.Frag) (mg : Str → Option Value) (T : Tab) (ds : List Df) : Prop where
  fs : T.fs = ds.map (·.x)
  all : ∀ d ∈ ds, okDf T d = true ∧ ∃ f fd, Have K mg d f fd
  bs : ∀ x, T.bs.contains x = true → mg x = none
  gs : ∀ x d, (x, d) ∈ T.gs → ∃ u v, mg x = some u ∧ RelV v u ∧ ∀ B H μ, B.K = K → Rep B H μ d v
theorem start_now {B : Bg} {H : Hp} {μ : List Addr} {st : Store} {N : List Str} {ds : List D} {vs : List V} (S : StOk B H μ st) (r : Reps B H μ ds vs) : Now B H μ (startD N.length ds) (L2.start N vs) st := by
  refine ⟨S, ?_, fun i d e => ?_⟩
  · unfold startD L2.start
    rw [List.length_append, List.length_append, List.length_map, List.length_map, List.length_replicate, List.length_replicate, r.length]
  · unfold startD at e
    by_cases hi : i < ds.length
    · rw [List.getElem?_append_left (by rw [List.length_map]; exact hi), List.getElem?_map] at e
      cases q : ds[i]? with
      | none => rw [q] at e; cases e
      | some d' =>
        rw [q] at e; cases e
        obtain ⟨v, h1, h2⟩ := r.get q
        refine ⟨v, ?_, h2⟩
        unfold L2.start
        rw [List.getElem?_append_left (by rw [List.length_map, r.length]; exact hi), List.getElem?_map, h1]; rfl
    · rw [List.getElem?_append_right (by rw [List.length_map]; omega)] at e
      rw [List.getElem?_replicate] at e
      split at e <;> cases e
theorem callP_len {P : List Fn} {k f : Nat} {ds : List D} {st : Store} {fn : Fn} (h : P[f]? = some fn) (hn : callP P k f ds st ≠ .no) : ds.length = fn.np := by
  cases k with
  | zero => exact absurd rfl hn
  | succ k =>
    unfold callP at hn
    rw [h] at hn
    unfold runB at hn
    by_cases hl : ds.length = fn.np
    · exact hl
    · simp only [if_neg hl] at hn
      exact absurd rfl hn
section
variable {P : Program} {w : World} {K : PySem.W.Frag} {mg : Str → Option Value} {base : Heap} {T : Tab} {ds : List Df}
theorem defs_ok (E : Env K mg T ds) : ∀ (k i : Nat) (d : Df) (f : Addr) (fd : FuncData), ds[i]? = some d → Have K mg d f fd → FnOk P w K mg base L2.CX0 k f fd d.ps (spF K (callP (ds.map (·.fn)) k) i d.ps.length)
  | 0, i, d, f, fd, hi, hv => by
    have no : ∀ vs H Q E, ¬ spF K (callP (ds.map (·.fn)) 0) i d.ps.length vs H Q E := fun vs H Q E ⟨B, μ, st, ds', _, _, _, _, W⟩ => W.not
    exact ⟨fun vs H Q E h => absurd h (no vs H Q E), fun A outer s H args us vs Q E _ _ _ _ h => absurd h (no vs H Q E)⟩
  | k + 1, i, d, f, fd, hi, hv => by
    obtain ⟨hok, _⟩ := E.all d (List.mem_of_getElem? hi)
    unfold okDf at hok
    simp only [Bool.and_eq_true, decide_eq_true_eq] at hok
    obtain ⟨⟨⟨h1, h2⟩, h3⟩, h4⟩ := hok
    have S := sc_of h1
    refine hv.fn.ok S (fun vs H Q E ⟨B, μ, st, ds', _, _, _, hl, _⟩ => hl) fun cdv A outer s H vs Q E' hr h => ?_
    obtain ⟨B, μ, st, ds', hB, hS, hR, hl, W⟩ := h
    have G : Good T (callP (ds.map (·.fn)) k) k (cxOf L2.CX0 P w K mg base d.N d.x (defScope d.st) f cdv A outer s H E').nox := by
      refine ⟨S.nd, rfl, hr, E.bs, E.gs, fun g x hx => ?_⟩
      rw [E.fs, List.getElem?_map] at hx
      cases q : ds[g]? with
      | none => rw [q] at hx; cases hx
      | some d2 =>
        rw [q] at hx
        cases hx
        obtain ⟨hok2, fa, fd2, hv2⟩ := E.all d2 (List.mem_of_getElem? q)
        unfold okDf at hok2
        simp only [Bool.and_eq_true, decide_eq_true_eq] at hok2
        refine ⟨fa, fd2, d2.ps, hv2.mgf, hv2.fn.kp, hv2.bnd, fun dds st hne => ?_, defs_ok E k g d2 fa fd2 q hv2⟩
        rw [callP_len (fn := d2.fn) (by rw [List.getElem?_map, q]; rfl) hne, hok2.1.2]
    refine ⟨_, soundSs G (fun _ _ z => z.elim) (fun _ => rfl) d.fn.body (defBody d.st) h2, B, μ, startD d.fn.nn ds', st, hB, h4 ▸ start_now hS hR, ?_⟩
    obtain ⟨r, st', e, kk⟩ := W
    unfold callP at e
    rw [List.getElem?_map, hi] at e
    simp only [Option.map_some, runB] at e
    have hlen : ds'.length = d.fn.np := by rw [← hR.length, hl, h3]
    rw [if_pos hlen] at e
    cases hz : evSs (callP (ds.map (·.fn)) k) d.fn.body (startD d.fn.nn ds') st with
    | no => rw [hz] at e; cases e
    | ok fl st2 =>
      rw [hz] at e
      refine ⟨fl, st2, hz, fun y H' μ' L S' r' => ?_⟩
      cases fl with
      | nx ρ =>
        cases e
        cases y with
        | inl σ => exact kk .non H' μ' L S' rfl
        | inr v => exact r'.elim
      | rt dd =>
        cases e
        cases y with
        | inl σ => exact r'.elim
        | inr v => exact kk v H' μ' L S' r'
/-- what law(script) is asked -/
theorem script_rep {B : Bg} {H : Hp} {a : Addr} {ns : List Int} (h : SqL B.K H a (ns.map V.int)) (hh : B.hid = []) : Rep B H [] (.ro (ns.map D.int)) (.ref a) := by
  have rs : ∀ ns : List Int, Reps B H [] (ns.map D.int) (ns.map V.int) := by
    intro ns
    induction ns with
    | nil => exact rfl
    | cons n ns ih => exact ⟨_, _, rfl, rfl, ih⟩
  refine ⟨a, ns.map V.int, rfl, ?_, rs ns⟩
  rcases h with h | h
  · exact .inl ⟨⟨by simp, by rw [hh]; simp⟩, h⟩
  · exact .inr h
end
/-! ### the top -/
theorem bs_of {mg : Str → Option Value} {l : List Str} (h : ∀ x ∈ l, mg x = none) : ∀ x, l.contains x = true → mg x = none := fun x hx => h x (by simpa using hx)
theorem all_nil {α : Type} {p : α → Prop} : ∀ x ∈ ([] : List α), p x := fun x h => by cases h
theorem all_cons {α : Type} {p : α → Prop} {a : α} {l : List α} (h : p a) (r : ∀ x ∈ l, p x) : ∀ x ∈ a :: l, p x := fun x hx => by
  rcases List.mem_cons.mp hx with z | z
  · exact z ▸ h
  · exact r x z
/-- a global of the top -/
def Glob (K : PySem.W.Frag) (mg : Str → Option Value) (p : Str × D) : Prop := ∃ u v, mg p.1 = some u ∧ RelV v u ∧ ∀ B H μ, B.K = K → Rep B H μ p.2 v
theorem gs_of {K : PySem.W.Frag} {mg : Str → Option Value} {l : List (Str × D)} (h : ∀ p ∈ l, Glob K mg p) : ∀ x d, (x, d) ∈ l → ∃ u v, mg x = some u ∧ RelV v u ∧ ∀ B H μ, B.K = K → Rep B H μ d v := fun x d hx => h (x, d) hx
theorem glob_int {K : PySem.W.Frag} {h : Heap} {mg : Str → Option Value} {x : Str} {i : Int} {t : Tok} (KX : K.In h) (G : h.Ns mainGlobals mg) (e : PySem.W.nsIn K mainGlobals x = some (some (.int i t))) : Glob K mg (x, .int i) :=
  ⟨_, .int i, PySem.W.mg_of KX G e, ⟨t, rfl⟩, fun _ _ _ _ => rfl⟩
theorem glob_str {K : PySem.W.Frag} {h : Heap} {mg : Str → Option Value} {x : Str} {s : String} {t : Tok} (KX : K.In h) (G : h.Ns mainGlobals mg) (e : PySem.W.nsIn K mainGlobals x = some (some (.str (Str.ofString s) t))) : Glob K mg (x, .str s) :=
  ⟨_, .str (Str.ofString s), PySem.W.mg_of KX G e, ⟨t, rfl⟩, fun _ _ _ _ => rfl⟩
theorem walk {l : PySem.W.OpenLaw} {q : Program} {loose : List Str} {XP : (Str → Option Value) → Heap → Prop} {YP : World → Heap → Prop} {d : DefRec} {K : Params → PySem.W.Frag} {T : Tab} {ds : List Df} {i k : Nat} {x : Str} (hn : l.most = some 63) (hdf : d.params.defaults = [])
    (hr : Room k callerA) (hY : ∀ (w : World) (h : Heap), YP w h → (K w.params).In h)
    (df : Df) (hi : ds[i]? = some df) (hx : df.x = d.name) (hps : df.ps = [x])
    (hE : ∀ (w : World) (mg : Str → Option Value) (h : Heap), (K w.params).In h → h.Ns mainGlobals mg → Env (K w.params) mg T ds)
    (hB : ∀ (w : World) (mg : Str → Option Value) (f : Addr) (fd : FuncData), Have (K w.params) mg df f fd → ∀ (s : Shared) (u : Value), BindsTo s fd ⟨[u], []⟩ [(x, u)])
    (law : ∀ ns : List Int, ns.length ≤ 63 → ∃ st', callP (ds.map (·.fn)) k i [.ro (ns.map D.int)] [] = .ok (.bl true) st') :
    PySem.W.WalkO q loose XP YP l.row.toRowW d [] (fun f vs => PySem.call f vs) := by
  refine L2.walk_ofK (n := 63) (k := k) (x := x) (CX := L2.CX0) (K := K) (sp := fun K => spF K (callP (ds.map (·.fn)) k) i 1) hn (by decide) hdf hr hY (fun w mg fa h hK hG hfa => ?_) (fun K H a ns hl _ hS => ?_) fun _ _ _ _ z => z
  · have E := hE w mg h hK hG
    obtain ⟨_, f, fd, hv⟩ := E.all df (List.mem_of_getElem? hi)
    have e : fa = f := by
      have := hv.mgf
      rw [hx, hfa] at this
      cases this; rfl
    subst e
    refine ⟨fd, hB w mg fa fd hv, fun base hb hbn => ?_⟩
    have := defs_ok (P := l.prog) (w := w) (base := base) E k i df fa fd hi hv
    rw [hps] at this
    exact this
  · obtain ⟨st', e⟩ := law ns hl
    exact ⟨⟨K, []⟩, [], [], [.ro (ns.map D.int)], rfl, ⟨rfl, List.nodup_nil, fun a h => absurd h (by simp), fun n a c h => by simp at h⟩, ⟨.ref a, [], rfl, script_rep (B := ⟨K, []⟩) hS rfl, rfl⟩, rfl, .bl true, st', e, fun v H' μ' L S r => r⟩
end Rx

set_option Elab.async false
set_option linter.all false
set_option autoImplicit false
namespace Rx
/-! ### what an evaluation comes to -/
def W {α : Type} (r : Res α) (Q : α → Store → Prop) : Prop := match r with
  | .ok a st => Q a st
  | .no => False
section
variable {α β : Type} {a : α} {st : Store} {Q Q' : α → Store → Prop} {r : Res α}
@[simp] theorem W_ok : W (.ok a st) Q = Q a st := rfl
@[simp] theorem W_no : W .no Q = False := rfl
@[simp] theorem W_bind {f : α → Store → Res β} {Q : β → Store → Prop} : W (r.bind f) Q = W r (fun a st => W (f a st) Q) := by cases r <;> rfl
theorem W.mono (h : W r Q) (i : ∀ a st, Q a st → Q' a st) : W r Q' := by
  cases r with
  | ok a st => exact i a st h
  | no => exact h
theorem W.get (h : W r Q) : ∃ a st, r = .ok a st ∧ Q a st := by
  cases r with
  | ok a st => exact ⟨a, st, rfl, h⟩
  | no => exact h.elim
@[simp] theorem W_ite {c : Prop} [Decidable c] {x y : Res α} : W (if c then x else y) Q = if c then W x Q else W y Q := by split <;> rfl
theorem W_guard {c : Prop} [Decidable c] : W (if c then r else .no) Q ↔ c ∧ W r Q := by
  by_cases h : c <;> simp [h]
@[simp] theorem of_some {a : α} : Res.of (some a) st = .ok a st := rfl
@[simp] theorem of_none : Res.of (none : Option α) st = .no := rfl
theorem W_of {o : Option α} : W (Res.of o st) Q ↔ ∃ a, o = some a ∧ Q a st := by cases o <;> simp
end
section
variable {C : CallF} {ρ : Slots} {st : Store} {m : Bool} {i j : Int} {xs ys : List D} {s t : String} {Q : D → Store → Prop} {QB : Bool → Store → Prop} {b : Bool} {n : Nat}
@[simp] theorem boolOf_bl {b : Bool} : boolOf (.bl b) st = .ok b st := rfl
@[simp] theorem newL_t : newL true xs st = .ok (.loc st.length) (st ++ [.lst xs]) := rfl
@[simp] theorem newL_f : newL false xs st = .ok (.lst xs) st := rfl
@[simp] theorem newD_t {ks : List Ky} : newD true ks xs st = .ok (.loc st.length) (st ++ [.dct ks xs]) := rfl
@[simp] theorem newD_f {ks : List Ky} : newD false ks xs st = .ok (.dct ks xs) st := rfl
@[simp] theorem le_LINE0 : (0 : Nat) ≤ LINE := by decide
@[simp] theorem lt_LINE0 : (0 : Nat) < LINE := by decide
@[simp] theorem le_LINE1 : (1 : Nat) ≤ LINE := by decide
@[simp] theorem lt_LINE1 : (1 : Nat) < LINE := by decide
@[simp] theorem le_LINE2 : (2 : Nat) ≤ LINE := by decide
@[simp] theorem lt_LINE2 : (2 : Nat) < LINE := by decide
@[simp] theorem le_LINE3 : (3 : Nat) ≤ LINE := by decide
@[simp] theorem lt_LINE3 : (3 : Nat) < LINE := by decide
@[simp] theorem le_LINE4 : (4 : Nat) ≤ LINE := by decide
@[simp] theorem lt_LINE4 : (4 : Nat) < LINE := by decide
@[simp] theorem le_LINE5 : (5 : Nat) ≤ LINE := by decide
@[simp] theorem lt_LINE5 : (5 : Nat) < LINE := by decide
@[simp] theorem le_LINE6 : (6 : Nat) ≤ LINE := by decide
@[simp] theorem lt_LINE6 : (6 : Nat) < LINE := by decide
@[simp] theorem le_LINE7 : (7 : Nat) ≤ LINE := by decide
@[simp] theorem lt_LINE7 : (7 : Nat) < LINE := by decide
@[simp] theorem le_LINE8 : (8 : Nat) ≤ LINE := by decide
@[simp] theorem lt_LINE8 : (8 : Nat) < LINE := by decide
@[simp] theorem le_LINE9 : (9 : Nat) ≤ LINE := by decide
@[simp] theorem lt_LINE9 : (9 : Nat) < LINE := by decide
@[simp] theorem le_LINE10 : (10 : Nat) ≤ LINE := by decide
@[simp] theorem lt_LINE10 : (10 : Nat) < LINE := by decide
@[simp] theorem le_LINE11 : (11 : Nat) ≤ LINE := by decide
@[simp] theorem lt_LINE11 : (11 : Nat) < LINE := by decide
@[simp] theorem le_LINE12 : (12 : Nat) ≤ LINE := by decide
@[simp] theorem lt_LINE12 : (12 : Nat) < LINE := by decide
@[simp] theorem le_LINE13 : (13 : Nat) ≤ LINE := by decide
@[simp] theorem lt_LINE13 : (13 : Nat) < LINE := by decide
@[simp] theorem le_LINE14 : (14 : Nat) ≤ LINE := by decide
@[simp] theorem lt_LINE14 : (14 : Nat) < LINE := by decide
@[simp] theorem le_LINE15 : (15 : Nat) ≤ LINE := by decide
@[simp] theorem lt_LINE15 : (15 : Nat) < LINE := by decide
@[simp] theorem le_LINE16 : (16 : Nat) ≤ LINE := by decide
@[simp] theorem lt_LINE16 : (16 : Nat) < LINE := by decide
@[simp] theorem le_LINE17 : (17 : Nat) ≤ LINE := by decide
@[simp] theorem lt_LINE17 : (17 : Nat) < LINE := by decide
@[simp] theorem le_LINE18 : (18 : Nat) ≤ LINE := by decide
@[simp] theorem lt_LINE18 : (18 : Nat) < LINE := by decide
@[simp] theorem le_LINE19 : (19 : Nat) ≤ LINE := by decide
@[simp] theorem lt_LINE19 : (19 : Nat) < LINE := by decide
@[simp] theorem le_LINE20 : (20 : Nat) ≤ LINE := by decide
@[simp] theorem lt_LINE20 : (20 : Nat) < LINE := by decide
@[simp] theorem le_LINE21 : (21 : Nat) ≤ LINE := by decide
@[simp] theorem lt_LINE21 : (21 : Nat) < LINE := by decide
@[simp] theorem le_LINE22 : (22 : Nat) ≤ LINE := by decide
@[simp] theorem lt_LINE22 : (22 : Nat) < LINE := by decide
@[simp] theorem le_LINE23 : (23 : Nat) ≤ LINE := by decide
@[simp] theorem lt_LINE23 : (23 : Nat) < LINE := by decide
@[simp] theorem le_LINE24 : (24 : Nat) ≤ LINE := by decide
@[simp] theorem lt_LINE24 : (24 : Nat) < LINE := by decide
@[simp] theorem le_LINE25 : (25 : Nat) ≤ LINE := by decide
@[simp] theorem lt_LINE25 : (25 : Nat) < LINE := by decide
@[simp] theorem le_LINE26 : (26 : Nat) ≤ LINE := by decide
@[simp] theorem lt_LINE26 : (26 : Nat) < LINE := by decide
@[simp] theorem le_LINE27 : (27 : Nat) ≤ LINE := by decide
@[simp] theorem lt_LINE27 : (27 : Nat) < LINE := by decide
@[simp] theorem le_LINE28 : (28 : Nat) ≤ LINE := by decide
@[simp] theorem lt_LINE28 : (28 : Nat) < LINE := by decide
@[simp] theorem le_LINE29 : (29 : Nat) ≤ LINE := by decide
@[simp] theorem lt_LINE29 : (29 : Nat) < LINE := by decide
@[simp] theorem le_LINE30 : (30 : Nat) ≤ LINE := by decide
@[simp] theorem lt_LINE30 : (30 : Nat) < LINE := by decide
@[simp] theorem le_LINE31 : (31 : Nat) ≤ LINE := by decide
@[simp] theorem lt_LINE31 : (31 : Nat) < LINE := by decide
@[simp] theorem le_LINE32 : (32 : Nat) ≤ LINE := by decide
@[simp] theorem lt_LINE32 : (32 : Nat) < LINE := by decide
@[simp] theorem le_LINE33 : (33 : Nat) ≤ LINE := by decide
@[simp] theorem lt_LINE33 : (33 : Nat) < LINE := by decide
@[simp] theorem le_LINE34 : (34 : Nat) ≤ LINE := by decide
@[simp] theorem lt_LINE34 : (34 : Nat) < LINE := by decide
@[simp] theorem le_LINE35 : (35 : Nat) ≤ LINE := by decide
@[simp] theorem lt_LINE35 : (35 : Nat) < LINE := by decide
@[simp] theorem le_LINE36 : (36 : Nat) ≤ LINE := by decide
@[simp] theorem lt_LINE36 : (36 : Nat) < LINE := by decide
@[simp] theorem le_LINE37 : (37 : Nat) ≤ LINE := by decide
@[simp] theorem lt_LINE37 : (37 : Nat) < LINE := by decide
@[simp] theorem le_LINE38 : (38 : Nat) ≤ LINE := by decide
@[simp] theorem lt_LINE38 : (38 : Nat) < LINE := by decide
@[simp] theorem le_LINE39 : (39 : Nat) ≤ LINE := by decide
@[simp] theorem lt_LINE39 : (39 : Nat) < LINE := by decide
@[simp] theorem le_LINE40 : (40 : Nat) ≤ LINE := by decide
@[simp] theorem lt_LINE40 : (40 : Nat) < LINE := by decide
@[simp] theorem le_LINE41 : (41 : Nat) ≤ LINE := by decide
@[simp] theorem lt_LINE41 : (41 : Nat) < LINE := by decide
@[simp] theorem le_LINE42 : (42 : Nat) ≤ LINE := by decide
@[simp] theorem lt_LINE42 : (42 : Nat) < LINE := by decide
@[simp] theorem le_LINE43 : (43 : Nat) ≤ LINE := by decide
@[simp] theorem lt_LINE43 : (43 : Nat) < LINE := by decide
@[simp] theorem le_LINE44 : (44 : Nat) ≤ LINE := by decide
@[simp] theorem lt_LINE44 : (44 : Nat) < LINE := by decide
@[simp] theorem le_LINE45 : (45 : Nat) ≤ LINE := by decide
@[simp] theorem lt_LINE45 : (45 : Nat) < LINE := by decide
@[simp] theorem le_LINE46 : (46 : Nat) ≤ LINE := by decide
@[simp] theorem lt_LINE46 : (46 : Nat) < LINE := by decide
@[simp] theorem le_LINE47 : (47 : Nat) ≤ LINE := by decide
@[simp] theorem lt_LINE47 : (47 : Nat) < LINE := by decide
@[simp] theorem le_LINE48 : (48 : Nat) ≤ LINE := by decide
@[simp] theorem lt_LINE48 : (48 : Nat) < LINE := by decide
@[simp] theorem le_LINE49 : (49 : Nat) ≤ LINE := by decide
@[simp] theorem lt_LINE49 : (49 : Nat) < LINE := by decide
@[simp] theorem le_LINE50 : (50 : Nat) ≤ LINE := by decide
@[simp] theorem lt_LINE50 : (50 : Nat) < LINE := by decide
@[simp] theorem le_LINE51 : (51 : Nat) ≤ LINE := by decide
@[simp] theorem lt_LINE51 : (51 : Nat) < LINE := by decide
@[simp] theorem le_LINE52 : (52 : Nat) ≤ LINE := by decide
@[simp] theorem lt_LINE52 : (52 : Nat) < LINE := by decide
@[simp] theorem le_LINE53 : (53 : Nat) ≤ LINE := by decide
@[simp] theorem lt_LINE53 : (53 : Nat) < LINE := by decide
@[simp] theorem le_LINE54 : (54 : Nat) ≤ LINE := by decide
@[simp] theorem lt_LINE54 : (54 : Nat) < LINE := by decide
@[simp] theorem le_LINE55 : (55 : Nat) ≤ LINE := by decide
@[simp] theorem lt_LINE55 : (55 : Nat) < LINE := by decide
@[simp] theorem le_LINE56 : (56 : Nat) ≤ LINE := by decide
@[simp] theorem lt_LINE56 : (56 : Nat) < LINE := by decide
@[simp] theorem le_LINE57 : (57 : Nat) ≤ LINE := by decide
@[simp] theorem lt_LINE57 : (57 : Nat) < LINE := by decide
@[simp] theorem le_LINE58 : (58 : Nat) ≤ LINE := by decide
@[simp] theorem lt_LINE58 : (58 : Nat) < LINE := by decide
@[simp] theorem le_LINE59 : (59 : Nat) ≤ LINE := by decide
@[simp] theorem lt_LINE59 : (59 : Nat) < LINE := by decide
@[simp] theorem le_LINE60 : (60 : Nat) ≤ LINE := by decide
@[simp] theorem lt_LINE60 : (60 : Nat) < LINE := by decide
@[simp] theorem le_LINE61 : (61 : Nat) ≤ LINE := by decide
@[simp] theorem lt_LINE61 : (61 : Nat) < LINE := by decide
@[simp] theorem le_LINE62 : (62 : Nat) ≤ LINE := by decide
@[simp] theorem lt_LINE62 : (62 : Nat) < LINE := by decide
@[simp] theorem le_LINE63 : (63 : Nat) ≤ LINE := by decide
@[simp] theorem lt_LINE63 : (63 : Nat) < LINE := by decide
@[simp] theorem le_LINE64 : (64 : Nat) ≤ LINE := by decide
@[simp] theorem lt_LINE64 : (64 : Nat) < LINE := by decide
/-! operators on ints -/
@[simp] theorem bop_add : bop .add m (.int i) (.int j) st = .ok (.int (i + j)) st := rfl
@[simp] theorem bop_sub : bop .sub m (.int i) (.int j) st = .ok (.int (i - j)) st := rfl
theorem W_if {c : Prop} [Decidable c] {d : D} : W (Res.of ((if c then some i else none : Option Int).map D.int) st) Q ↔ c ∧ Q (.int i) st := by
  by_cases h : c <;> simp [h]
@[simp] theorem W_mul : W (bop .mul m (.int i) (.int j) st) Q ↔ ((-(2 ^ 64) < i ∧ i < 2 ^ 64) ∨ (-(2 ^ 64) < j ∧ j < 2 ^ 64)) ∧ Q (.int (i * j)) st := W_if (d := .non)
@[simp] theorem W_div : W (bop .div m (.int i) (.int j) st) Q ↔ (0 < j ∧ j < 1073741824) ∧ Q (.int (i / j)) st := W_if (d := .non)
@[simp] theorem W_mod : W (bop .mod m (.int i) (.int j) st) Q ↔ 0 < j ∧ Q (.int (i % j)) st := W_if (d := .non)
@[simp] theorem W_pow : W (bop .pow m (.int i) (.int j) st) Q ↔ (0 ≤ j ∧ j ≤ 1000000 ∧ i.natAbs < 2 ^ 64) ∧ Q (.int (i ^ j.toNat)) st := W_if (d := .non)
@[simp] theorem W_adds : W (bop .add m (.str s) (.str t) st) Q ↔ s.length + t.length ≤ LINE ∧ Q (.str (s ++ t)) st := by
  exact W_guard
@[simp] theorem W_addt : W (bop .add m (.tup xs) (.tup ys) st) Q ↔ xs.length + ys.length ≤ LINE ∧ Q (.tup (xs ++ ys)) st := by
  exact W_guard
@[simp] theorem W_mult : W (bop .mul m (.tup xs) (.int i) st) Q ↔ (xs ≠ [] ∧ -(2 ^ 63) ≤ i ∧ i ≤ 1000 ∧ xs.length ≤ 1000) ∧ Q (.tup (List.replicate i.toNat xs).flatten) st := by
  exact W_guard
@[simp] theorem W_muls : W (bop .mul m (.str s) (.int i) st) Q ↔ (-(2 ^ 63) ≤ i ∧ i ≤ 1000 ∧ s.length ≤ 1000) ∧ Q (.str (String.ofList (List.replicate i.toNat s.toList).flatten)) st := by
  exact W_guard
theorem W_addl {a b : D} (ha : lstOf st a = some xs) (hb : lstOf st b = some ys) : W (bop .add m a b st) Q ↔ xs.length + ys.length ≤ LINE ∧ W (newL m (xs ++ ys) st) Q := by
  have : bop .add m a b st = if xs.length + ys.length ≤ LINE then newL m (xs ++ ys) st else .no := by
    cases a <;> first | (cases ha; done) | skip
    all_goals (cases b <;> first | (cases hb; done) | skip)
    all_goals simp only [bop, ha, hb]
  rw [this, W_guard]
@[simp] theorem W_addll : W (bop .add m (.lst xs) (.lst ys) st) Q ↔ xs.length + ys.length ≤ LINE ∧ W (newL m (xs ++ ys) st) Q := W_addl rfl rfl
/-! comparisons -/
@[simp] theorem cmp_lt : cmpV .lt (.int i) (.int j) st = some (decide (i < j)) := rfl
@[simp] theorem cmp_le : cmpV .le (.int i) (.int j) st = some (decide (i ≤ j)) := rfl
@[simp] theorem cmp_gt : cmpV .gt (.int i) (.int j) st = some (decide (j < i)) := rfl
@[simp] theorem cmp_ge : cmpV .ge (.int i) (.int j) st = some (decide (j ≤ i)) := rfl
@[simp] theorem cmp_eqi : cmpV .eq (.int i) (.int j) st = some (i == j) := by simp [cmpV, flat1, okEq, scal, cmpb, D.eq]
@[simp] theorem cmp_nei : cmpV .ne (.int i) (.int j) st = some (!(i == j)) := by simp [cmpV, flat1, okEq, scal, cmpb, D.eq]
@[simp] theorem cmp_eqs : cmpV .eq (.str s) (.str t) st = some (s == t) := by simp [cmpV, flat1, okEq, scal, cmpb, D.eq]
@[simp] theorem cmp_nes : cmpV .ne (.str s) (.str t) st = some (!(s == t)) := by simp [cmpV, flat1, okEq, scal, cmpb, D.eq]
@[simp] theorem cmp_eqb {a b : Bool} : cmpV .eq (.bl a) (.bl b) st = some (a == b) := by simp [cmpV, flat1, okEq, scal, cmpb, D.eq]
@[simp] theorem cmp_neb {a b : Bool} : cmpV .ne (.bl a) (.bl b) st = some (!(a == b)) := by simp [cmpV, flat1, okEq, scal, cmpb, D.eq]
@[simp] theorem cmp_isb {a b : Bool} : cmpV .is (.bl a) (.bl b) st = some (a == b) := by simp [cmpV, isB]
theorem eq_ss {s t : String} : D.eq (.str s) (.str t) = (s == t) := rfl
theorem eq_ii {i j : Int} : D.eq (.int i) (.int j) = (i == j) := rfl
theorem inB_tup {x : D} (h : (scal x && xs.all scal) = true) : cmpV .isin x (.tup xs) st = some (isIn x xs) := by
  show inB x (.tup xs) st = _
  have : inB x (.tup xs) st = if (scal x && xs.all scal) = true then some (isIn x xs) else (match dctOf st (.tup xs), kyOf x with
      | some (ks, vs), some k => some (lookK ks vs k).isSome
      | _, _ => none) := by
    simp only [inB, seqOf]
    split <;> simp_all [dctOf]
  rw [this, if_pos h]
theorem notin_of {a b : D} {k : Bool} (h : cmpV .isin a b st = some k) : cmpV .notin a b st = some (!k) := by
  simp only [cmpV] at h ⊢
  rw [h]; rfl
@[simp] theorem in_s1 {s a0 : String} : cmpV .isin (.str s) (.tup [.str a0]) st = some (a0 == s) := by
  rw [inB_tup (by simp [scal])]
  simp [isIn, eq_ss]
@[simp] theorem notin_s1 {s a0 : String} : cmpV .notin (.str s) (.tup [.str a0]) st = some (!(a0 == s)) := notin_of in_s1
@[simp] theorem in_s2 {s a0 a1 : String} : cmpV .isin (.str s) (.tup [.str a0, .str a1]) st = some ((a0 == s || a1 == s)) := by
  rw [inB_tup (by simp [scal])]
  simp [isIn, eq_ss]
@[simp] theorem notin_s2 {s a0 a1 : String} : cmpV .notin (.str s) (.tup [.str a0, .str a1]) st = some (!((a0 == s || a1 == s))) := notin_of in_s2
@[simp] theorem in_s3 {s a0 a1 a2 : String} : cmpV .isin (.str s) (.tup [.str a0, .str a1, .str a2]) st = some ((a0 == s || (a1 == s || a2 == s))) := by
  rw [inB_tup (by simp [scal])]
  simp [isIn, eq_ss]
@[simp] theorem notin_s3 {s a0 a1 a2 : String} : cmpV .notin (.str s) (.tup [.str a0, .str a1, .str a2]) st = some (!((a0 == s || (a1 == s || a2 == s)))) := notin_of in_s3
@[simp] theorem in_s4 {s a0 a1 a2 a3 : String} : cmpV .isin (.str s) (.tup [.str a0, .str a1, .str a2, .str a3]) st = some ((a0 == s || (a1 == s || (a2 == s || a3 == s)))) := by
  rw [inB_tup (by simp [scal])]
  simp [isIn, eq_ss]
@[simp] theorem notin_s4 {s a0 a1 a2 a3 : String} : cmpV .notin (.str s) (.tup [.str a0, .str a1, .str a2, .str a3]) st = some (!((a0 == s || (a1 == s || (a2 == s || a3 == s))))) := notin_of in_s4
@[simp] theorem in_s5 {s a0 a1 a2 a3 a4 : String} : cmpV .isin (.str s) (.tup [.str a0, .str a1, .str a2, .str a3, .str a4]) st = some ((a0 == s || (a1 == s || (a2 == s || (a3 == s || a4 == s))))) := by
  rw [inB_tup (by simp [scal])]
  simp [isIn, eq_ss]
@[simp] theorem notin_s5 {s a0 a1 a2 a3 a4 : String} : cmpV .notin (.str s) (.tup [.str a0, .str a1, .str a2, .str a3, .str a4]) st = some (!((a0 == s || (a1 == s || (a2 == s || (a3 == s || a4 == s)))))) := notin_of in_s5
@[simp] theorem in_s6 {s a0 a1 a2 a3 a4 a5 : String} : cmpV .isin (.str s) (.tup [.str a0, .str a1, .str a2, .str a3, .str a4, .str a5]) st = some ((a0 == s || (a1 == s || (a2 == s || (a3 == s || (a4 == s || a5 == s)))))) := by
  rw [inB_tup (by simp [scal])]
  simp [isIn, eq_ss]
@[simp] theorem notin_s6 {s a0 a1 a2 a3 a4 a5 : String} : cmpV .notin (.str s) (.tup [.str a0, .str a1, .str a2, .str a3, .str a4, .str a5]) st = some (!((a0 == s || (a1 == s || (a2 == s || (a3 == s || (a4 == s || a5 == s))))))) := notin_of in_s6
@[simp] theorem in_s7 {s a0 a1 a2 a3 a4 a5 a6 : String} : cmpV .isin (.str s) (.tup [.str a0, .str a1, .str a2, .str a3, .str a4, .str a5, .str a6]) st = some ((a0 == s || (a1 == s || (a2 == s || (a3 == s || (a4 == s || (a5 == s || a6 == s))))))) := by
  rw [inB_tup (by simp [scal])]
  simp [isIn, eq_ss]
@[simp] theorem notin_s7 {s a0 a1 a2 a3 a4 a5 a6 : String} : cmpV .notin (.str s) (.tup [.str a0, .str a1, .str a2, .str a3, .str a4, .str a5, .str a6]) st = some (!((a0 == s || (a1 == s || (a2 == s || (a3 == s || (a4 == s || (a5 == s || a6 == s)))))))) := notin_of in_s7
@[simp] theorem in_s8 {s a0 a1 a2 a3 a4 a5 a6 a7 : String} : cmpV .isin (.str s) (.tup [.str a0, .str a1, .str a2, .str a3, .str a4, .str a5, .str a6, .str a7]) st = some ((a0 == s || (a1 == s || (a2 == s || (a3 == s || (a4 == s || (a5 == s || (a6 == s || a7 == s)))))))) := by
  rw [inB_tup (by simp [scal])]
  simp [isIn, eq_ss]
@[simp] theorem notin_s8 {s a0 a1 a2 a3 a4 a5 a6 a7 : String} : cmpV .notin (.str s) (.tup [.str a0, .str a1, .str a2, .str a3, .str a4, .str a5, .str a6, .str a7]) st = some (!((a0 == s || (a1 == s || (a2 == s || (a3 == s || (a4 == s || (a5 == s || (a6 == s || a7 == s))))))))) := notin_of in_s8
/-! items -/
@[simp] theorem ix_tup : ixV (.tup xs) (.int i) st = atI xs i := rfl
@[simp] theorem ix_lst : ixV (.lst xs) (.int i) st = atI xs i := rfl
@[simp] theorem ix_ro : ixV (.ro xs) (.int i) st = atI xs i := rfl
theorem ix_loc (h : st[n]? = some (.lst xs)) : ixV (.loc n) (.int i) st = atI xs i := by simp [ixV, seqOf, h]
theorem atI_nat {α : Type} {xs : List α} {k : Nat} (h : k < xs.length) : atI xs (k : Int) = some xs[k] := by
  have : ((k : Nat) : Int) < (xs.length : Int) := by omega
  simp [atI, ixN, this, h]
theorem atI_of {α : Type} {xs : List α} {i : Int} (h0 : 0 ≤ i) (h : i < xs.length) : ∃ x, atI xs i = some x ∧ x ∈ xs := by
  obtain ⟨k, rfl⟩ := Int.eq_ofNat_of_zero_le h0
  have hk : k < xs.length := by simpa using h
  exact ⟨xs[k], atI_nat hk, List.getElem_mem hk⟩
@[simp] theorem atI_0 {α : Type} {a : α} {r : List α} : atI (a :: r) 0 = some a := by
  have := atI_nat (xs := a :: r) (k := 0) (by simp)
  simpa using this
@[simp] theorem atI_1 {α : Type} {a b : α} {r : List α} : atI (a :: b :: r) 1 = some b := by
  have := atI_nat (xs := a :: b :: r) (k := 1) (by simp)
  simpa using this
@[simp] theorem atI_2 {α : Type} {a b c : α} {r : List α} : atI (a :: b :: c :: r) 2 = some c := by
  have := atI_nat (xs := a :: b :: c :: r) (k := 2) (by simp)
  simpa using this
@[simp] theorem atI_3 {α : Type} {a b c d : α} {r : List α} : atI (a :: b :: c :: d :: r) 3 = some d := by
  have := atI_nat (xs := a :: b :: c :: d :: r) (k := 3) (by simp)
  simpa using this
/-! built-ins -/
@[simp] theorem len_tup : biV .len m [.tup xs] st = .ok (.int xs.length) st := rfl
@[simp] theorem len_lst : biV .len m [.lst xs] st = .ok (.int xs.length) st := rfl
@[simp] theorem len_ro : biV .len m [.ro xs] st = .ok (.int xs.length) st := rfl
theorem len_loc (h : st[n]? = some (.lst xs)) : biV .len m [.loc n] st = .ok (.int xs.length) st := by simp [biV, seqOf, h]
@[simp] theorem W_lens : W (biV .len m [.str s] st) Q ↔ s.length ≤ LINE ∧ Q (.int s.length) st := by
  exact W_guard
@[simp] theorem max_int : biV .max m [.int i, .int j] st = .ok (.int (if j > i then j else i)) st := rfl
@[simp] theorem min_int : biV .min m [.int i, .int j] st = .ok (.int (if j < i then j else i)) st := rfl
@[simp] theorem tup_lst : biV .tuple m [.lst xs] st = .ok (.tup xs) st := rfl
@[simp] theorem tup_tup : biV .tuple m [.tup xs] st = .ok (.tup xs) st := rfl
theorem tup_loc (h : st[n]? = some (.lst xs)) : biV .tuple m [.loc n] st = .ok (.tup xs) st := by simp [biV, lroOf, h]
@[simp] theorem lst_tup : biV .list m [.tup xs] st = newL m xs st := rfl
@[simp] theorem lst_lst : biV .list m [.lst xs] st = newL m xs st := rfl
theorem lst_loc (h : st[n]? = some (.lst xs)) : biV .list m [.loc n] st = newL m xs st := by simp [biV, seqOf, h]
/-! slots -/
@[simp] theorem bind_nm {k : Nat} {d : D} : bindT (.nm k) d ρ = some (ρ.set k (some d)) := rfl
/-! calls -/
theorem callP_succ {P : List Fn} {k f : Nat} {fn : Fn} {ds : List D} (h : P[f]? = some fn) : callP P (k + 1) f ds st = runB (callP P k) fn ds st := by
  show (match P[f]? with | some fn => runB (callP P k) fn ds st | none => .no) = _
  rw [h]
theorem runB_eq {f : Fn} {ds : List D} (h : ds.length = f.np) : runB C f ds st = (evSs C f.body (startD f.nn ds) st).bind fun r st => match r with
    | .nx _ => .ok .non st
    | .rt d => .ok d st := by
  unfold runB
  rw [if_pos h]
  all_goals congr 1
end
/-! ### loops -/
theorem W_for {g : Store → Bool} {f : D → Slots → Store → Res Fl} {Q : Fl → Store → Prop} (I : List D → Slots → Store → Prop) (hg : ∀ r ρ st, I r ρ st → g st = true)
    (step : ∀ x r ρ st, I (x :: r) ρ st → W (f x ρ st) fun o st => match o with
      | .nx ρ => I r ρ st
      | .rt v => Q (.rt v) st) (hend : ∀ ρ st, I [] ρ st → Q (.nx ρ) st) : ∀ (xs : List D) (ρ : Slots) (st : Store), I xs ρ st → W (forL g f xs ρ st) Q
  | [], ρ, st, h => by
    unfold forL
    rw [if_pos (hg _ _ _ h)]
    exact hend _ _ h
  | x :: r, ρ, st, h => by
    unfold forL
    rw [if_pos (hg _ _ _ h), W_bind]
    refine (step x r ρ st h).mono fun o st h => ?_
    cases o with
    | nx ρ => exact W_for I hg step hend r ρ st h
    | rt v => exact h
theorem W_lc {g : Store → Bool} {f : D → Store → Res (Option D)} {Q : List D → Store → Prop} (I : List D → List D → Store → Prop) (hg : ∀ r acc st, I r acc st → g st = true)
    (step : ∀ x r acc st, I (x :: r) acc st → W (f x st) fun o st => match o with
      | none => I r acc st
      | some y => acc.length < LINE ∧ I r (acc ++ [y]) st) (hend : ∀ acc st, I [] acc st → Q acc st) : ∀ (xs acc : List D) (st : Store), I xs acc st → W (lcL g f xs acc st) Q
  | [], acc, st, h => by
    unfold lcL
    rw [if_pos (hg _ _ _ h)]
    exact hend _ _ h
  | x :: r, acc, st, h => by
    unfold lcL
    rw [if_pos (hg _ _ _ h), W_bind]
    refine (step x r acc st h).mono fun o st h => ?_
    cases o with
    | none => exact W_lc I hg step hend r acc st h
    | some y => simp only; rw [if_pos h.1]; exact W_lc I hg step hend r _ st h.2
/-- a comprehension over the images of as, R stands -/
theorem W_mapR {α : Type} {g : Store → Bool} {f : D → Store → Res (Option D)} {st : Store} {Q : List D → Store → Prop} (R : Store → Prop) (t u : α → D) {as : List α} (h0 : R st) (hg : ∀ s, R s → g s = true) (hl : as.length ≤ LINE)
    (h : ∀ a ∈ as, ∀ s, R s → W (f (t a) s) fun o s' => R s' ∧ o = some (u a)) (hq : ∀ s, R s → Q (as.map u) s) : W (lcL g f (as.map t) [] st) Q := by
  refine W_lc (fun r acc s => R s ∧ ∃ ds ts, as = ds ++ ts ∧ r = ts.map t ∧ acc = ds.map u) (fun r acc s h => hg s h.1) ?_ ?_ _ _ _ ⟨h0, [], as, rfl, rfl, rfl⟩
  · rintro x r acc s ⟨hs, ds, ts, rfl, hr, rfl⟩
    cases ts with
    | nil => cases hr
    | cons a ts =>
      rw [List.map_cons] at hr
      cases hr
      refine (h a (by simp) s hs).mono ?_
      rintro _ s' ⟨hs', rfl⟩
      simp only [List.length_append, List.length_cons] at hl
      exact ⟨by rw [List.length_map]; omega, hs', ds ++ [a], ts, by simp, rfl, by simp⟩
  · rintro acc s ⟨hs, ds, ts, rfl, hr, rfl⟩
    cases ts with
    | nil => rw [List.append_nil] at hq; exact hq s hs
    | cons a ts => cases hr
/-- a for over the images of as -/
theorem W_forA {α : Type} {g : Store → Bool} {f : D → Slots → Store → Res Fl} {st : Store} {ρ : Slots} {Q : Fl → Store → Prop} (I : List α → Slots → Store → Prop) (t : α → D) {as : List α} (h0 : I [] ρ st) (hg : ∀ ds ρ s, I ds ρ s → g s = true)
    (h : ∀ ds a ts, as = ds ++ a :: ts → ∀ ρ s, I ds ρ s → W (f (t a) ρ s) fun o s' => match o with
      | .nx ρ => I (ds ++ [a]) ρ s'
      | .rt v => Q (.rt v) s') (hq : ∀ ρ s, I as ρ s → Q (.nx ρ) s) : W (forL g f (as.map t) ρ st) Q := by
  refine W_for (fun r ρ s => ∃ ds ts, as = ds ++ ts ∧ r = ts.map t ∧ I ds ρ s) (fun r ρ s ⟨ds, ts, _, _, h⟩ => hg ds ρ s h) ?_ ?_ _ _ _ ⟨[], as, rfl, rfl, h0⟩
  · rintro x r ρ s ⟨ds, ts, hd, hr, hi⟩
    cases ts with
    | nil => cases hr
    | cons a ts =>
      rw [List.map_cons] at hr
      cases hr
      refine (h ds a ts hd ρ s hi).mono ?_
      intro o s' ho
      cases o with
      | nx ρ => exact ⟨ds ++ [a], ts, by rw [hd]; simp, rfl, ho⟩
      | rt v => exact ho
  · rintro ρ s ⟨ds, ts, hd, hr, hi⟩
    cases ts with
    | nil => rw [List.append_nil] at hd; exact hq ρ s (hd ▸ hi)
    | cons a ts => cases hr
@[simp] theorem guard_nil {xs : List D} {st : Store} : guard ⟨xs, []⟩ st = true := rfl
end Rx

set_option Elab.async false
set_option linter.all false
set_option maxRecDepth 10000
set_option maxHeartbeats 400000
set_option autoImplicit false
namespace Rx
/-! from M1 -/
theorem atI_ints {ns : List Int} {j : Int} (h0 : 0 ≤ j) (h : j < ns.length) : ∃ i, atI (ns.map D.int) j = some (.int i) := by
  obtain ⟨x, h1, h2⟩ := atI_of (xs := ns.map D.int) h0 (by simpa using h)
  obtain ⟨i, _, rfl⟩ := List.mem_map.mp h2
  exact ⟨i, h1⟩
/-- a cell of the kind B at n -/
def Box (B : Cell → Prop) (n : Nat) (st : Store) : Prop := ∃ c, st[n]? = some c ∧ B c
/-- the box at n may be another, all else that was there is as it was -/
structure Chg (B : Cell → Prop) (n : Nat) (st st' : Store) : Prop where
  box : Box B n st'
  len : st.length ≤ st'.length
  old : ∀ i, i ≠ n → i < st.length → st'[i]? = st[i]?
section
variable {B : Cell → Prop}
theorem Chg.refl {n : Nat} {st : Store} (h : Box B n st) : Chg B n st st := ⟨h, Nat.le_refl _, fun _ _ _ => rfl⟩
theorem Chg.trans {n : Nat} {st s1 s2 : Store} (a : Chg B n st s1) (b : Chg B n s1 s2) : Chg B n st s2 :=
  ⟨b.box, Nat.le_trans a.len b.len, fun i h1 h2 => (b.old i h1 (Nat.lt_of_lt_of_le h2 a.len)).trans (a.old i h1 h2)⟩
theorem Box.lt {n : Nat} {st : Store} (h : Box B n st) : n < st.length := by
  obtain ⟨_, h, _⟩ := h
  exact (List.getElem?_eq_some_iff.mp h).1
theorem Chg.set {n : Nat} {st : Store} {c : Cell} (h : Box B n st) (hc : B c) : Chg B n st (st.set n c) :=
  ⟨⟨c, by simp [h.lt], hc⟩, by simp, fun i h1 _ => List.getElem?_set_ne (Ne.symm h1)⟩
theorem Chg.app {n : Nat} {st s : Store} {c : Cell} (h : Chg B n st s) : Chg B n st (s ++ [c]) := by
  obtain ⟨⟨d, e, hd⟩, h2, h3⟩ := h
  refine ⟨⟨d, ?_, hd⟩, by simp; omega, fun i h1 h4 => ?_⟩
  · rw [List.getElem?_append_left (List.getElem?_eq_some_iff.mp e).1]; exact e
  · rw [List.getElem?_append_left (by omega)]; exact h3 i h1 h4
theorem Chg.set' {n m : Nat} {st s : Store} {c : Cell} (h : Chg B n st s) (h1 : m ≠ n) (h2 : st.length ≤ m) : Chg B n st (s.set m c) := by
  obtain ⟨⟨d, e, hd⟩, g2, g3⟩ := h
  refine ⟨⟨d, ?_, hd⟩, by simpa using g2, fun i h3 h4 => ?_⟩
  · rw [List.getElem?_set_ne h1]; exact e
  · rw [List.getElem?_set_ne (by omega)]; exact g3 i h3 h4
theorem Chg.at {n m : Nat} {st s : Store} {c : Cell} (h : Chg B n st s) (h1 : m ≠ n) (h2 : st[m]? = some c) : s[m]? = some c := by
  rw [h.old m h1 (List.getElem?_eq_some_iff.mp h2).1]; exact h2
end
theorem me_join {m : Bool} {xs : List D} {st : Store} {l : List String} {s : String} {Q : D → Store → Prop} (h : strsD xs = some l) : W (meV .join m (.str s) [.lst xs] st) Q ↔ joinLen s.length l ≤ LINE ∧ Q (.str (joinS s l)) st := by
  show W (match (seqOf st (.lst xs)).bind strsD with
    | some xs => if joinLen s.length xs ≤ LINE then .ok (.str (joinS s xs)) st else .no
    | none => .no) Q ↔ _
  have : (seqOf st (.lst xs)).bind strsD = some l := h
  rw [this]
  exact W_guard
theorem rng_len (i j : Int) : (rng i j).length = (j - i).toNat := by simp [rng]
theorem ix_str {s : String} {i : Int} {st : Store} {c : Char} (h : atI s.toList i = some c) (hl : s.length ≤ LINE) : ixV (.str s) (.int i) st = some (.str (String.ofList [c])) := by
  simp [ixV, h, hl]
theorem strs_of : ∀ {xs : List D} {p : String → Prop}, (∀ x ∈ xs, ∃ s, x = .str s ∧ p s) → ∃ l, strsD xs = some l ∧ xs = l.map D.str ∧ ∀ s ∈ l, p s
  | [], p, h => ⟨[], rfl, rfl, fun s hs => by simp at hs⟩
  | x :: xs, p, h => by
    obtain ⟨s, rfl, hs⟩ := h x List.mem_cons_self
    obtain ⟨l, h1, h2, h3⟩ := strs_of fun y hy => h y (List.mem_cons_of_mem _ hy)
    refine ⟨s :: l, by simp [strsD, h1], by rw [h2]; rfl, fun t ht => ?_⟩
    rcases List.mem_cons.mp ht with z | z
    · exact z ▸ hs
    · exact h3 t z
theorem joinE : ∀ l : List String, (joinS "" l).toList = (l.map String.toList).flatten
  | [] => rfl
  | [x] => by simp [joinS]
  | x :: y :: r => by
    have := joinE (y :: r)
    simp only [joinS, String.toList_append, this]
    simp

/-! from M2 -/
/-- a comprehension that keeps some items, nothing else changes -/
theorem W_filter {g : Store → Bool} {f : D → Store → Res (Option D)} {st : Store} {Q : List D → Store → Prop} (p : D → Bool) {xs : List D} (hg : g st = true) (hl : xs.length ≤ LINE)
    (h : ∀ x ∈ xs, W (f x st) fun o st' => st' = st ∧ o = if p x then some x else none) (hq : Q (xs.filter p) st) : W (lcL g f xs [] st) Q := by
  refine W_lc (fun r acc s => s = st ∧ acc.length + r.length ≤ LINE ∧ (∀ x ∈ r, x ∈ xs) ∧ acc ++ r.filter p = xs.filter p) (fun r acc s ⟨e, _⟩ => by rw [e]; exact hg) ?_ ?_ _ _ _ ⟨rfl, by simpa using hl, fun _ h => h, rfl⟩
  · rintro x r acc s ⟨rfl, h1, h2, h3⟩
    refine (h x (h2 x List.mem_cons_self)).mono ?_
    rintro o s' ⟨rfl, rfl⟩
    simp only [List.length_cons] at h1
    by_cases hp : p x = true
    · simp only [hp, if_true]
      refine ⟨by omega, trivial, by simp; omega, fun y hy => h2 y (List.mem_cons_of_mem _ hy), ?_⟩
      rw [← h3]; simp [hp]
    · simp only [hp, if_false]
      refine ⟨trivial, by omega, fun y hy => h2 y (List.mem_cons_of_mem _ hy), ?_⟩
      rw [← h3]; simp [hp]
  · rintro acc s ⟨rfl, _, _, h3⟩
    simp at h3
    exact h3 ▸ hq
theorem W_map {g : Store → Bool} {f : D → Store → Res (Option D)} {st : Store} {Q : List D → Store → Prop} (p : D → D) {xs : List D} (hg : g st = true) (hl : xs.length ≤ LINE)
    (h : ∀ x ∈ xs, W (f x st) fun o st' => st' = st ∧ o = some (p x)) (hq : Q (xs.map p) st) : W (lcL g f xs [] st) Q := by
  refine W_lc (fun r acc s => s = st ∧ acc.length + r.length ≤ LINE ∧ (∀ x ∈ r, x ∈ xs) ∧ acc ++ r.map p = xs.map p) (fun r acc s ⟨e, _⟩ => by rw [e]; exact hg) ?_ ?_ _ _ _ ⟨rfl, by simpa using hl, fun _ h => h, rfl⟩
  · rintro x r acc s ⟨rfl, h1, h2, h3⟩
    refine (h x (h2 x List.mem_cons_self)).mono ?_
    rintro o s' ⟨rfl, rfl⟩
    simp only [List.length_cons] at h1
    refine ⟨by omega, rfl, by simp; omega, fun y hy => h2 y (List.mem_cons_of_mem _ hy), ?_⟩
    rw [← h3]; simp
  · rintro acc s ⟨rfl, _, _, h3⟩
    simp at h3
    exact h3 ▸ hq
/-- a loop that leaves with v at the first item that p doesn't like, nothing else changes -/
theorem W_all {g : Store → Bool} {f : D → Slots → Store → Res Fl} {st : Store} {Q : Fl → Store → Prop} (p : D → Bool) (R : Slots → Prop) {v : D} {xs : List D} {ρ : Slots} (hg : g st = true) (h0 : R ρ)
    (h : ∀ x ∈ xs, ∀ ρ, R ρ → W (f x ρ st) fun o st' => st' = st ∧ if p x = true then ∃ ρ', o = .nx ρ' ∧ R ρ' else o = .rt v) (h1 : xs.all p = false → Q (.rt v) st) (h2 : xs.all p = true → ∀ ρ, R ρ → Q (.nx ρ) st) : W (forL g f xs ρ st) Q := by
  refine W_for (fun r ρ s => s = st ∧ (∀ x ∈ r, x ∈ xs) ∧ R ρ ∧ (r.all p = xs.all p)) (fun r ρ s ⟨e, _⟩ => by rw [e]; exact hg) ?_ ?_ _ _ _ ⟨rfl, fun _ h => h, h0, rfl⟩
  · rintro x r ρ s ⟨rfl, k1, k2, k3⟩
    refine (h x (k1 x List.mem_cons_self) ρ k2).mono ?_
    rintro o s' ⟨rfl, ho⟩
    by_cases hp : p x = true
    · rw [if_pos hp] at ho
      obtain ⟨ρ', rfl, hr⟩ := ho
      exact ⟨rfl, fun y hy => k1 y (List.mem_cons_of_mem _ hy), hr, by rw [← k3]; simp [hp]⟩
    · rw [if_neg hp] at ho
      subst ho
      exact h1 (by rw [← k3]; simp [hp])
  · rintro ρ s ⟨rfl, _, k2, k3⟩
    exact h2 (by rw [← k3]; rfl) ρ k2
theorem cutAt_none {c : Char} : ∀ {l : List Char}, cutAt c l = none → c ∉ l ∧ splitC c l = [l] ∧ l.count c = 0
  | [], _ => by simp [splitC]
  | x :: r, h => by
    unfold cutAt at h
    by_cases e : x = c
    · rw [if_pos e] at h; cases h
    · rw [if_neg e] at h
      have h' : cutAt c r = none := by
        cases q : cutAt c r with
        | none => rfl
        | some z => rw [q] at h; cases h
      obtain ⟨h1, h2, h3⟩ := cutAt_none h'
      refine ⟨?_, by unfold splitC; rw [if_neg e, h2], ?_⟩
      · simp [h1, Ne.symm e]
      · simp [h3, e]
theorem cutAt_some {c : Char} : ∀ {l a b : List Char}, cutAt c l = some (a, b) → splitC c l = a :: splitC c b ∧ l.count c = b.count c + 1 ∧ a.length + b.length + 1 = l.length
  | [], _, _, h => by cases h
  | x :: r, a, b, h => by
    unfold cutAt at h
    by_cases e : x = c
    · rw [if_pos e] at h
      cases h
      refine ⟨by rw [splitC, if_pos e], by simp [e], by simp⟩
    · rw [if_neg e] at h
      cases q : cutAt c r with
      | none => rw [q] at h; cases h
      | some z =>
        obtain ⟨u, v⟩ := z
        rw [q] at h
        cases h
        obtain ⟨h1, h2, h3⟩ := cutAt_some q
        refine ⟨by rw [splitC, if_neg e, h1], by simp [h2, e], by simp; omega⟩

/-! from M4 -/
theorem cut_1 {α : Type} {x : α} {r : List α} : cut (x :: r) (some 1) none = r := by
  simp [cut, sIx]
theorem eq_str {h : D} {t : String} {st : Store} (hc : cmpb h = true) (hn : ∀ s, h ≠ .str s) : cmpV .eq h (.str t) st = some false := by
  cases h <;> first | (cases hc; done) | (exact absurd rfl (hn _)) | simp [cmpV, flat1, okEq, scal, cmpb, D.eq]
theorem eq_nil_t {xs : List D} {st : Store} : cmpV .eq (.tup xs) (.tup []) st = some xs.isEmpty := by
  cases xs <;> simp [cmpV, flat1, okEq, isNil, cmpb, D.eq, D.eqAll]

/-! from M6 -/
mutual
theorem same_refl : ∀ d : D, D.same d d = true
  | .non => rfl
  | .bl b => by simp [D.same]
  | .int i => by simp [D.same]
  | .str s => by simp [D.same]
  | .tup xs => by simp [D.same, sameAll_refl xs]
  | .lst xs => by simp [D.same, sameAll_refl xs]
  | .ro xs => by simp [D.same, sameAll_refl xs]
  | .dct ks vs => by simp [D.same, sameAll_refl vs]
  | .loc n => by simp [D.same]
theorem sameAll_refl : ∀ xs : List D, D.sameAll xs xs = true
  | [] => rfl
  | x :: xs => by simp [D.sameAll, same_refl x, sameAll_refl xs]
end
theorem guard_loc {xs ys : List D} {n : Nat} {st : Store} (h : st[n]? = some (.lst ys)) : guard ⟨xs, [(n, ys)]⟩ st = true := by
  simp [guard, guardL, h, sameAll_refl]
/-- what was there is as it was -/
def Ext (st st' : Store) : Prop := ∀ (n : Nat) (c : Cell), st[n]? = some c → st'[n]? = some c
theorem Ext.refl {st : Store} : Ext st st := fun _ _ h => h
theorem Ext.trans {a b c : Store} (x : Ext a b) (y : Ext b c) : Ext a c := fun n d h => y n d (x n d h)
theorem Ext.app {st more : Store} : Ext st (st ++ more) := fun n c h => by
  rw [List.getElem?_append_left (List.getElem?_eq_some_iff.mp h).1]; exact h
theorem Ext.len {a b : Store} (x : Ext a b) : a.length ≤ b.length := by
  cases h : a.length with
  | zero => omega
  | succ n =>
    obtain ⟨c, hc⟩ : ∃ c, a[n]? = some c := ⟨a[n], List.getElem?_eq_getElem (by omega)⟩
    have := (List.getElem?_eq_some_iff.mp (x n c hc)).1
    omega
theorem Ext.set {a b : Store} {n : Nat} {c : Cell} (x : Ext a b) (h : a.length ≤ n) : Ext a (b.set n c) := fun i d hi => by
  have := (List.getElem?_eq_some_iff.mp hi).1
  rw [List.getElem?_set_ne (by omega)]
  exact x i d hi
def Ints (l : List Int) : List D := l.map D.int
theorem ints_D : ∀ l : List Int, intsD (Ints l) = some l
  | [] => rfl
  | i :: l => by
    have := ints_D l
    simp only [Ints, List.map_cons] at this ⊢
    simp [intsD, this]
theorem sum_ints {m : Bool} {l : List Int} {st : Store} : biV .sum m [.lst (Ints l)] st = .ok (.int l.sum) st := by
  show Res.of (((lstOf st (.lst (Ints l))).bind intsD).map fun l => D.int l.sum) st = _
  rw [show (lstOf st (.lst (Ints l))).bind intsD = some l from ints_D l]
  rfl
theorem scal_ints (l : List Int) : (Ints l).all scal = true := by simp [Ints, scal]
theorem isIn_ints (x : Int) (l : List Int) : isIn (.int x) (Ints l) = l.contains x := by
  rw [Bool.eq_iff_iff]
  simp [isIn, Ints, D.eq]

/-! from M7 -/
/-- each once, where it first stands -/
def nub : List Int → List Int
  | [] => []
  | x :: r => x :: (nub r).filter (· ≠ x)
theorem mem_nub {y : Int} : ∀ {l : List Int}, y ∈ nub l ↔ y ∈ l
  | [] => by simp [nub]
  | x :: r => by
    have ih := mem_nub (y := y) (l := r)
    simp only [nub, List.mem_cons, List.mem_filter, ih, ne_eq, decide_not, Bool.not_eq_true', decide_eq_false_iff_not]
    by_cases h : y = x <;> simp [h]
theorem nub_len : ∀ l : List Int, (nub l).length ≤ l.length
  | [] => by simp [nub]
  | x :: r => by
    have h1 := nub_len r
    have h2 := List.length_filter_le (fun y => decide (y ≠ x)) (nub r)
    simp only [nub, List.length_cons]
    omega
/-- acc, then what of l is new -/
def dd (acc l : List Int) : List Int := acc ++ (nub l).filter fun y => !acc.contains y
theorem dd_nil (acc : List Int) : dd acc [] = acc := by simp [dd, nub]
theorem dd_cons (acc : List Int) (x : Int) (r : List Int) : dd acc (x :: r) = dd (if x ∈ acc then acc else acc ++ [x]) r := by
  unfold dd
  by_cases h : x ∈ acc
  · simp only [h, if_true, nub]
    rw [List.filter_cons]
    simp only [List.contains_iff_mem.mpr h, Bool.not_true, Bool.false_eq_true, if_false, List.filter_filter]
    congr 1
    refine List.filter_congr fun y hy => ?_
    by_cases e : y = x
    · subst e; simp [h]
    · simp [e]
  · simp only [h, if_false, nub]
    rw [List.filter_cons]
    have hc : acc.contains x = false := by simpa using h
    simp only [hc, Bool.not_false, if_true, List.filter_filter, List.append_assoc]
    congr 1
    simp only [List.singleton_append, List.cons.injEq, true_and]
    refine List.filter_congr fun y hy => ?_
    by_cases e : y = x
    · subst e; simp
    · simp [e]
theorem dd_app : ∀ (a b acc : List Int), dd acc (a ++ b) = dd (dd acc a) b
  | [], b, acc => by rw [List.nil_append, dd_nil]
  | x :: a, b, acc => by rw [List.cons_append, dd_cons, dd_cons, dd_app a b]
theorem dd_nub (l : List Int) : dd [] l = nub l := by simp [dd]
theorem nub_app (a b : List Int) : nub (a ++ b) = nub a ++ (nub b).filter fun y => !(nub a).contains y := by
  rw [← dd_nub, dd_app, dd_nub]; rfl
theorem inB_loc {x : Int} {l : List Int} {n : Nat} {st : Store} (h : st[n]? = some (.lst (Ints l))) : cmpV .isin (.int x) (.loc n) st = some (l.contains x) := by
  show inB (.int x) (.loc n) st = _
  have : inB (.int x) (.loc n) st = if (scal (.int x) && (Ints l).all scal) = true then some (isIn (.int x) (Ints l)) else none := by
    simp only [inB, seqOf, h]
  rw [this, scal_ints, isIn_ints]
  rfl
theorem inB_lst {x : Int} {l : List Int} {st : Store} : cmpV .isin (.int x) (.lst (Ints l)) st = some (l.contains x) := by
  show inB (.int x) (.lst (Ints l)) st = _
  have : inB (.int x) (.lst (Ints l)) st = if (scal (.int x) && (Ints l).all scal) = true then some (isIn (.int x) (Ints l)) else (match dctOf st (.lst (Ints l)), kyOf (.int x) with
      | some (ks, vs), some k => some (lookK ks vs k).isSome
      | _, _ => none) := by
    simp only [inB, seqOf]
    split <;> simp_all [dctOf]
  rw [this, scal_ints, isIn_ints]
  rfl
theorem ext_is {n : Nat} {xs : List D} {st : Store} (h : st[n]? = some (.lst xs)) : meIs st .extend (.loc n) = true := by simp only [meIs, h]
theorem ext_loc {m : Bool} {n : Nat} {a : D} {xs ys : List D} {st : Store} {Q : D → Store → Prop} (h : st[n]? = some (.lst xs)) (ha : lstOf st a = some ys) : W (meV .extend m (.loc n) [a] st) Q ↔ xs.length + ys.length ≤ LINE ∧ Q .non (st.set n (.lst (xs ++ ys))) := by
  have : meV .extend m (.loc n) [a] st = if xs.length + ys.length ≤ LINE then .ok .non (st.set n (.lst (xs ++ ys))) else .no := by
    simp only [meV, h, ha]
  rw [this]
  exact W_guard
theorem filter_int (p : Int → Bool) (l : List Int) : (Ints l).filter (fun d => match d with | .int i => p i | _ => false) = Ints (l.filter p) := by
  induction l with
  | nil => rfl
  | cons i l ih =>
    simp only [Ints, List.map_cons] at ih ⊢
    by_cases h : p i = true <;> simp [h, ih]

/-! from M9 -/
theorem cut_m1 {α : Type} {xs : List α} : cut xs none (some (-1)) = xs.take (xs.length - 1) := by
  have : (-1 + (xs.length : Int)).toNat = xs.length - 1 := by omega
  simp [cut, sIx, this]
theorem cut_1' {α : Type} {x : α} {r : List α} : cut (x :: r) none (some 1) = [x] := by
  simp [cut, sIx]
theorem W_ixl {xs : List D} {i : Int} {st : Store} {Q : D → Store → Prop} (h0 : 0 ≤ i) (h1 : i < xs.length) (h : ∀ r ∈ xs, Q r st) : W (Res.of (atI xs i) st) Q := by
  obtain ⟨r, e1, e2⟩ := atI_of h0 h1
  rw [e1]
  exact h r e2

/-! from M10 -/
theorem ixN_nat {n j : Nat} (h : j < n) : ixN n (j : Int) = some j := by
  have : ((j : Nat) : Int) < (n : Int) := by omega
  simp [ixN, this]
theorem eq_nil {xs : List D} {st : Store} : cmpV .eq (.lst xs) (.lst []) st = some xs.isEmpty := by
  cases xs <;> simp [cmpV, flat1, okEq, isNil, cmpb, D.eq, D.eqAll]
theorem filter_empty {p : D → Bool} : ∀ {l : List D}, (l.filter fun x => !p x).isEmpty = l.all p
  | [] => rfl
  | x :: l => by
    have ih := filter_empty (p := p) (l := l)
    by_cases hx : p x = true
    · simp [hx] at ih ⊢; exact ih
    · simp [hx]
theorem one_in (c : Char) (t : String) (st : Store) : cmpV .notin (.str (String.singleton c)) (.str t) st = some (!t.toList.contains c) := by
  simp [cmpV, inB]
theorem eq_nil_loc {m : Nat} {xs : List D} {st : Store} (h : st[m]? = some (.lst xs)) : cmpV .eq (.loc m) (.lst []) st = some xs.isEmpty := by
  have : flat1 st (.loc m) = .lst xs := by simp only [flat1, h]
  rw [← eq_nil (st := st)]
  simp only [cmpV, this]
  rfl
theorem rkAll_ints (l : List Int) : D.rkAll (Ints l) = 0 := by
  induction l with
  | nil => rfl
  | cons i l ih => simp only [Ints, List.map_cons] at ih ⊢; simp only [D.rkAll, D.rk, ih]; rfl
theorem eqAll_ints (l : List Int) : D.eqAll (Ints l) (Ints l) = true := by
  induction l with
  | nil => rfl
  | cons i l ih => simp only [Ints, List.map_cons] at ih ⊢; simp only [D.eqAll, eq_ii, ih]; simp
theorem ne_ints {l : List Int} {st : Store} : cmpV .ne (.lst (Ints l)) (.lst (Ints l)) st = some false := by
  have h1 : okEq (.lst (Ints l)) (.lst (Ints l)) = true := by
    simp [okEq, D.rk, rkAll_ints]
  have h2 : D.eq (.lst (Ints l)) (.lst (Ints l)) = true := by
    show D.eqAll (Ints l) (Ints l) = true
    exact eqAll_ints l
  simp only [cmpV, flat1, h1, h2]
  rfl
theorem cut_to {α : Type} {xs : List α} {i : Nat} : cut xs none (some (i : Int)) = xs.take i := by
  have : ¬ ((i : Int) < 0) := by omega
  simp [cut, sIx, this]
theorem walk_of {st : Store} {v : D} {xs : List D} (h : lstOf st v = some xs) : ∃ ats, wlkL v st = some ⟨xs, ats⟩ ∧ (∀ ys, guard ⟨ys, ats⟩ st = true) ∧ lroOf st v = some xs ∧ (∀ i : Nat, sliV false v none (some (i : Int)) st = .ok (.lst (xs.take i)) st) := by
  cases v <;> first | (cases h; done) | skip
  · cases h
    refine ⟨[], rfl, fun _ => rfl, rfl, fun i => ?_⟩
    show newL false (cut xs none (some (i : Int))) st = _
    rw [cut_to]; rfl
  · rename_i n
    have hn : st[n]? = some (.lst xs) := by
      simp only [lstOf] at h
      split at h
      · rename_i q; cases h; exact q
      · cases h
    refine ⟨[(n, xs)], by simp only [wlkL, hn], fun _ => guard_loc hn, by simp only [lroOf, hn], fun i => ?_⟩
    have : sliV false (.loc n) none (some (i : Int)) st = newL false (cut xs none (some (i : Int))) st := by simp only [sliV, lroOf, hn]
    rw [this, cut_to]; rfl
theorem nub_snoc (p : List Int) (x : Int) : nub (p ++ [x]) = if x ∈ p then nub p else nub p ++ [x] := by
  rw [nub_app]
  have : nub [x] = [x] := rfl
  rw [this]
  by_cases h : x ∈ p
  · have : x ∈ nub p := mem_nub.mpr h
    simp [h, this]
  · have : x ∉ nub p := fun z => h (mem_nub.mp z)
    simp [h, this]
end Rx

namespace k21
open Rx
abbrev i_is_general : Nat := 0
abbrev i_law_cell : Nat := 1
abbrev i_law_mixed : Nat := 2
abbrev i_law_box : Nat := 3
abbrev i_law_take : Nat := 4
abbrev i_law_place : Nat := 5
abbrev i_law_words : Nat := 6
abbrev i_law_field : Nat := 7
abbrev i_law_sums : Nat := 8
abbrev i_law_tags : Nat := 9
abbrev i_law_pattern : Nat := 10
abbrev i_law_rows : Nat := 11
abbrev i_law_any : Nat := 12
abbrev i_law_body : Nat := 13
abbrev i_law_chain : Nat := 14
abbrev i_law_inner : Nat := 15
abbrev i_law_count : Nat := 16
abbrev i_law_is_general : Nat := 17
abbrev i_law_drawn : Nat := 18
abbrev i_law_said : Nat := 19
abbrev i_law_parts : Nat := 20
abbrev i_law : Nat := 21
/-- is_general, statement 1 of the top; names: part one -/
def N_is_general : List PySem.Str := ["part", "one"]
def c_is_general : Fn := ⟨1, 2,
    (.cons (.iff (.cmp .eq (.ix (.var 0) (.lit (.int 0))) (.lit (.str "tag"))) (.cons (.ret (.bi .all false (.cons (.lc false (.call i_is_general (.cons (.var 1) .nil)) (.nm 1) (.it (.ix (.var 0) (.lit (.int 3)))) .non [1]) .nil)))
    .nil) .nil)
    (.cons (.ret (.cmp .isin (.ix (.var 0) (.lit (.int 0))) (.tup (.cons (.lit (.str "num")) (.cons (.lit (.str "name")) (.cons (.lit (.str "of")) (.cons (.lit (.str "fn")) (.cons (.lit (.str "loop")) (.cons (.lit (.str "cell")) .nil)))))))))
    .nil))⟩
/-- _law_cell, statement 3 of the top; names: script k -/
def N_law_cell : List PySem.Str := ["script", "k"]
def c_law_cell : Fn := ⟨2, 2,
    (.cons (.iff (.cmp .lt (.var 1) (.bi .len false (.cons (.var 0) .nil))) (.cons (.ret (.ix (.var 0) (.var 1)))
    .nil) .nil)
    (.cons (.ret (.bop .add false (.bop .mul false (.lit (.int 7919)) (.var 1)) (.lit (.int 13))))
    .nil))⟩
/-- _law_mixed, statement 4 of the top; names: cell k number -/
def N_law_mixed : List PySem.Str := ["cell", "k", "number"]
def c_law_mixed : Fn := ⟨2, 3,
    (.cons (.asg (.nm 2) (.bop .mod false (.bop .add false (.bop .add false (.var 0) (.bop .mul false (.lit (.int 7919)) (.var 1))) (.lit (.int 12345))) (.lit (.int 2147483629))))
    (.cons (.asg (.nm 2) (.bop .mod false (.bop .add false (.bop .mul false (.var 2) (.var 2)) (.bop .mul false (.lit (.int 48271)) (.var 1))) (.lit (.int 2147483629))))
    (.cons (.ret (.bop .mod false (.bop .mul false (.var 2) (.var 2)) (.lit (.int 2147483587))))
    .nil)))⟩
/-- _law_box, statement 5 of the top; names: script k cell -/
def N_law_box : List PySem.Str := ["script", "k", "cell"]
def c_law_box : Fn := ⟨2, 3,
    (.cons (.asg (.nm 2) (.call i_law_cell (.cons (.var 0) (.cons (.var 1) .nil))))
    (.cons (.ret (.lst true (.cons (.bi .max false (.cons (.lit (.int 0)) (.cons (.bop .sub false (.var 2) (.bop .pow false (.lit (.int 10)) (.lit (.int 18)))) .nil))) (.cons (.bop .mod false (.var 2) (.lit (.int 2147483647))) (.cons (.lit (.int 0)) (.cons (.lit (.int 0)) .nil))))))
    .nil))⟩
/-- _law_take, statement 6 of the top; names: box many digit -/
def N_law_take : List PySem.Str := ["box", "many", "digit"]
def c_law_take : Fn := ⟨2, 3,
    (.cons (.iff (.cmp .gt (.ix (.var 0) (.lit (.int 0))) (.lit (.int 0))) (.cons (.asg (.nm 2) (.bop .mod false (.ix (.var 0) (.lit (.int 0))) (.var 1)))
    (.cons (.put (.var 0) (.lit (.int 0)) (.bop .div false (.ix (.var 0) (.lit (.int 0))) (.var 1)))
    (.cons (.ret (.var 2))
    .nil))) .nil)
    (.cons (.put (.var 0) (.lit (.int 2)) (.bop .add false (.ix (.var 0) (.lit (.int 2))) (.lit (.int 1))))
    (.cons (.ret (.bop .mod false (.call i_law_mixed (.cons (.ix (.var 0) (.lit (.int 1))) (.cons (.ix (.var 0) (.lit (.int 2))) .nil))) (.var 1)))
    .nil)))⟩
/-- _law_place, statement 7 of the top; names: box -/
def N_law_place : List PySem.Str := ["box"]
def c_law_place : Fn := ⟨1, 1,
    (.cons (.put (.var 0) (.lit (.int 3)) (.bop .add false (.ix (.var 0) (.lit (.int 3))) (.lit (.int 1))))
    (.cons (.ret (.bop .sub false (.ix (.var 0) (.lit (.int 3))) (.lit (.int 1))))
    .nil))⟩
/-- _law_words, statement 8 of the top; names: box many letters first tail at k -/
def N_law_words : List PySem.Str := ["box", "many", "letters", "first", "tail", "at", "k"]
def c_law_words : Fn := ⟨2, 7,
    (.cons (.asg (.nm 2) (.lit (.str "abcdefghijklmnopqrstuvwxyz")))
    (.cons (.asg (.nm 3) (.call i_law_take (.cons (.var 0) (.cons (.lit (.int 26)) .nil))))
    (.cons (.asg (.nm 4) (.me .join false (.lit (.str "")) (.cons (.lc false (.ix (.lit (.str "abcd")) (.call i_law_take (.cons (.var 0) (.cons (.lit (.int 4)) .nil)))) (.nm 6) (.rng (.call i_law_take (.cons (.var 0) (.cons (.lit (.int 4)) .nil)))) .non [6]) .nil)))
    (.cons (.asg (.nm 5) (.call i_law_take (.cons (.var 0) (.cons (.bop .add false (.bi .len false (.cons (.var 4) .nil)) (.lit (.int 1))) .nil))))
    (.cons (.ret (.lc false (.bop .add false (.bop .add false (.sl false (.var 4) .non (.som (.var 5))) (.ix (.var 2) (.bop .mod false (.bop .add false (.var 3) (.bop .mul false (.lit (.int 7)) (.var 6))) (.lit (.int 26))))) (.sl false (.var 4) (.som (.var 5)) .non)) (.nm 6) (.rng (.var 1)) .non [6]))
    .nil)))))⟩
/-- _law_field, statement 9 of the top; names: box decls name args later opens some n decl -/
def N_law_field : List PySem.Str := ["box", "decls", "name", "args", "later", "opens", "some", "n", "decl"]
def c_law_field : Fn := ⟨5, 9,
    (.cons (.asg (.nm 5) (.lc false (.tup (.cons (.lit (.str "open")) (.cons (.var 7) .nil))) (.nm 7) (.rng (.var 3)) .non [7]))
    (.cons (.asg (.nm 6) (.bop .add false (.bop .add false (.lst false (.cons (.tup (.cons (.lit (.str "num")) .nil)) (.cons (.tup (.cons (.lit (.str "made")) (.cons (.lit (.str "truth")) (.cons (.tup .nil) .nil)))) (.cons (.tup (.cons (.lit (.str "fn")) (.cons (.tup (.cons (.lit (.str "num")) .nil)) (.cons (.tup (.cons (.lit (.str "num")) .nil)) .nil)))) (.cons (.tup (.cons (.lit (.str "ref")) (.cons (.tup (.cons (.lit (.str "num")) .nil)) .nil))) .nil))))) (.var 5)) (.var 5)))
    (.cons (.iff (.var 4) (.cons (.asg (.nm 6) (.bop .add false (.var 6) (.bop .mul false (.lst false (.cons (.tup (.cons (.lit (.str "made")) (.cons (.var 2) (.cons (.bi .tuple false (.cons (.var 5) .nil)) .nil)))) .nil)) (.lit (.int 2)))))
    .nil) .nil)
    (.cons (.asg (.nm 6) (.bop .add false (.var 6) (.lc false (.tup (.cons (.lit (.str "made")) (.cons (.ix (.var 8) (.lit (.int 2))) (.cons (.bop .mul false (.tup (.cons (.tup (.cons (.lit (.str "num")) .nil)) .nil)) (.ix (.var 8) (.lit (.int 3)))) .nil)))) (.nm 8) (.it (.var 1)) .non [8])))
    (.cons (.ret (.ix (.var 6) (.call i_law_take (.cons (.var 0) (.cons (.bi .len false (.cons (.var 6) .nil)) .nil)))))
    .nil)))))⟩
/-- _law_sums, statement 10 of the top; names: box words most decls k args place tags j many fields i -/
def N_law_sums : List PySem.Str := ["box", "words", "most", "decls", "k", "args", "place", "tags", "j", "many", "fields", "i"]
def c_law_sums : Fn := ⟨1, 12,
    (.cons (.asg (.nm 1) (.call i_law_words (.cons (.var 0) (.cons (.lit (.int 12)) .nil))))
    (.cons (.asg (.nm 2) (.ix (.lst false (.cons (.lit (.int 3)) (.cons (.lit (.int 5)) .nil))) (.bi .int false (.cons (.cmp .eq (.call i_law_take (.cons (.var 0) (.cons (.lit (.int 8)) .nil))) (.lit (.int 7))) .nil))))
    (.cons (.asg (.nm 3) (.lst true .nil))
    (.cons (.for_ (.nm 4) (.rng (.call i_law_take (.cons (.var 0) (.cons (.lit (.int 3)) .nil)))) (.cons (.asg (.nm 5) (.call i_law_take (.cons (.var 0) (.cons (.lit (.int 3)) .nil))))
    (.cons (.asg (.nm 6) (.call i_law_place (.cons (.var 0) .nil)))
    (.cons (.asg (.nm 7) (.lst true .nil))
    (.cons (.for_ (.nm 8) (.rng (.bop .add false (.lit (.int 1)) (.call i_law_take (.cons (.var 0) (.cons (.var 2) .nil))))) (.cons (.asg (.nm 9) (.call i_law_take (.cons (.var 0) (.cons (.bop .sub false (.var 2) (.bop .div false (.var 2) (.lit (.int 4)))) .nil))))
    (.cons (.asg (.nm 10) (.lc false (.call i_law_field (.cons (.var 0) (.cons (.var 3) (.cons (.ix (.var 1) (.var 4)) (.cons (.var 5) (.cons (.cmp .gt (.var 8) (.lit (.int 0))) .nil)))))) (.nm 11) (.rng (.var 9)) .non [11]))
    (.cons (.expr (.me .append false (.var 7) (.cons (.tup (.cons (.ix (.var 1) (.bop .add false (.bop .add false (.lit (.int 2)) (.bop .mul false (.lit (.int 5)) (.var 4))) (.var 8))) (.cons (.bi .tuple false (.cons (.var 10) .nil)) .nil))) .nil)))
    .nil))))
    (.cons (.expr (.me .append false (.var 3) (.cons (.tup (.cons (.lit (.str "sum")) (.cons (.var 6) (.cons (.ix (.var 1) (.var 4)) (.cons (.var 5) (.cons (.bi .tuple false (.cons (.var 7) .nil)) .nil)))))) .nil)))
    .nil))))))
    (.cons (.ret (.bi .tuple false (.cons (.var 3) .nil)))
    .nil)))))⟩
/-- _law_tags, statement 11 of the top; names: decls found word place name args tags tag fields -/
def N_law_tags : List PySem.Str := ["decls", "found", "word", "place", "name", "args", "tags", "tag", "fields"]
def c_law_tags : Fn := ⟨1, 9,
    (.cons (.asg (.nm 1) (.lst true (.cons (.tup (.cons (.lit (.str "yes")) (.cons (.lit (.str "truth")) (.cons (.lit (.int 0)) (.cons (.tup .nil) .nil))))) (.cons (.tup (.cons (.lit (.str "no")) (.cons (.lit (.str "truth")) (.cons (.lit (.int 0)) (.cons (.tup .nil) .nil))))) .nil))))
    (.cons (.for_ (.tu [2, 3, 4, 5, 6]) (.it (.var 0)) (.cons (.expr (.me .extend false (.var 1) (.cons (.lc false (.tup (.cons (.var 7) (.cons (.var 4) (.cons (.var 5) (.cons (.var 8) .nil))))) (.tu [7, 8]) (.it (.var 6)) .non [7, 8]) .nil)))
    .nil))
    (.cons (.ret (.var 1))
    .nil)))⟩
/-- _law_pattern, statement 12 of the top; names: box tags names deep place way tag owner args fields field -/
def N_law_pattern : List PySem.Str := ["box", "tags", "names", "deep", "place", "way", "tag", "owner", "args", "fields", "field"]
def c_law_pattern : Fn := ⟨4, 11,
    (.cons (.asg (.nm 4) (.call i_law_place (.cons (.var 0) .nil)))
    (.cons (.asg (.nm 5) (.call i_law_take (.cons (.var 0) (.cons (.lit (.int 4)) .nil))))
    (.cons (.iff (.cmp .eq (.var 5) (.lit (.int 0))) (.cons (.ret (.tup (.cons (.lit (.str "skip")) (.cons (.var 4) .nil))))
    .nil) .nil)
    (.cons (.iff (.ors (.cons (.cmp .eq (.var 5) (.lit (.int 1))) (.cons (.cmp .lt (.var 3) (.lit (.int 1))) .nil))) (.cons (.expr (.me .append false (.var 2) (.cons (.bop .add false (.ix (.lit (.str "pqrstuvw")) (.bop .mod false (.bi .len false (.cons (.var 2) .nil)) (.lit (.int 8)))) (.bop .mul false (.lit (.str "z")) (.bop .div false (.bi .len false (.cons (.var 2) .nil)) (.lit (.int 8))))) .nil)))
    (.cons (.ret (.tup (.cons (.lit (.str "any")) (.cons (.var 4) (.cons (.ix (.var 2) (.neg (.lit (.int 1)))) .nil)))))
    .nil)) .nil)
    (.cons (.asg (.tu [6, 7, 8, 9]) (.ix (.var 1) (.call i_law_take (.cons (.var 0) (.cons (.bi .len false (.cons (.var 1) .nil)) .nil)))))
    (.cons (.ret (.tup (.cons (.lit (.str "tag")) (.cons (.var 4) (.cons (.var 6) (.cons (.bi .tuple false (.cons (.lc false (.call i_law_pattern (.cons (.var 0) (.cons (.var 1) (.cons (.var 2) (.cons (.bop .sub false (.var 3) (.lit (.int 1))) .nil))))) (.nm 10) (.it (.var 9)) .non [10]) .nil)) .nil))))))
    .nil))))))⟩
/-- _law_rows, statement 13 of the top; names: box tags names deep rows most k known pattern -/
def N_law_rows : List PySem.Str := ["box", "tags", "names", "deep", "rows", "most", "k", "known", "pattern"]
def c_law_rows : Fn := ⟨4, 9,
    (.cons (.asg (.nm 4) (.lst true .nil))
    (.cons (.asg (.nm 5) (.ix (.lst false (.cons (.lit (.int 3)) (.cons (.lit (.int 6)) .nil))) (.bi .int false (.cons (.cmp .eq (.call i_law_take (.cons (.var 0) (.cons (.lit (.int 8)) .nil))) (.lit (.int 7))) .nil))))
    (.cons (.for_ (.nm 6) (.rng (.bop .add false (.lit (.int 1)) (.call i_law_take (.cons (.var 0) (.cons (.var 5) .nil))))) (.cons (.asg (.nm 7) (.lst true .nil))
    (.cons (.asg (.nm 8) (.call i_law_pattern (.cons (.var 0) (.cons (.var 1) (.cons (.var 7) (.cons (.lit (.int 2)) .nil))))))
    (.cons (.expr (.me .append false (.var 4) (.cons (.tup (.cons (.var 8) (.cons (.call i_law_any (.cons (.var 0) (.cons (.var 1) (.cons (.bop .add false (.var 2) (.var 7)) (.cons (.bop .sub false (.var 3) (.lit (.int 1))) .nil))))) .nil))) .nil)))
    .nil))))
    (.cons (.ret (.bi .tuple false (.cons (.var 4) .nil)))
    .nil))))⟩
/-- _law_any, statement 14 of the top; names: box tags names deep place way x one other n word kind tag owner args fields field -/
def N_law_any : List PySem.Str := ["box", "tags", "names", "deep", "place", "way", "x", "one", "other", "n", "word", "kind", "tag", "owner", "args", "fields", "field"]
def c_law_any : Fn := ⟨4, 17,
    (.cons (.asg (.nm 4) (.call i_law_place (.cons (.var 0) .nil)))
    (.cons (.asg (.nm 5) (.call i_law_take (.cons (.var 0) (.cons (.ix (.lst false (.cons (.lit (.int 15)) (.cons (.lit (.int 3)) .nil))) (.bi .int false (.cons (.cmp .lt (.var 3) (.lit (.int 1))) .nil))) .nil))))
    (.cons (.iff (.ors (.cons (.cmp .eq (.var 5) (.lit (.int 0))) (.cons (.ands (.cons (.cmp .eq (.var 5) (.lit (.int 1))) (.cons (.cmp .eq (.var 2) (.lst false .nil)) .nil))) .nil))) (.cons (.asg (.nm 9) (.call i_law_take (.cons (.var 0) (.cons (.lit (.int 150)) .nil))))
    (.cons (.iff (.cmp .lt (.var 9) (.lit (.int 100))) (.cons (.ret (.tup (.cons (.lit (.str "num")) (.cons (.var 4) (.cons (.var 9) .nil)))))
    .nil) .nil)
    (.cons (.ret (.tup (.cons (.lit (.str "of")) (.cons (.var 4) (.cons (.ix (.lst false (.cons (.lit (.str "m")) (.cons (.lit (.str "n")) .nil))) (.bop .mod false (.var 9) (.lit (.int 2)))) (.cons (.ix (.lst false (.cons (.lit (.str "id")) (.cons (.lit (.str "one")) (.cons (.lit (.str "swap")) .nil)))) (.bop .mod false (.var 9) (.lit (.int 3)))) .nil))))))
    .nil))) .nil)
    (.cons (.iff (.ors (.cons (.cmp .eq (.var 5) (.lit (.int 1))) (.cons (.ands (.cons (.cmp .eq (.var 5) (.lit (.int 14))) (.cons (.cmp .ne (.var 2) (.lst false .nil)) .nil))) .nil))) (.cons (.ret (.tup (.cons (.lit (.str "name")) (.cons (.var 4) (.cons (.ix (.var 2) (.call i_law_take (.cons (.var 0) (.cons (.bi .len false (.cons (.var 2) .nil)) .nil)))) .nil)))))
    .nil) .nil)
    (.cons (.iff (.cmp .lt (.var 5) (.lit (.int 4))) (.cons (.asg (.tu [12, 13, 14, 15]) (.ix (.var 1) (.call i_law_take (.cons (.var 0) (.cons (.ix (.lst false (.cons (.bi .len false (.cons (.var 1) .nil)) (.cons (.lit (.int 2)) .nil))) (.bi .int false (.cons (.cmp .lt (.var 3) (.lit (.int 1))) .nil))) .nil)))))
    (.cons (.ret (.tup (.cons (.lit (.str "tag")) (.cons (.var 4) (.cons (.var 12) (.cons (.bi .tuple false (.cons (.lc false (.call i_law_any (.cons (.var 0) (.cons (.var 1) (.cons (.var 2) (.cons (.bop .sub false (.var 3) (.lit (.int 1))) .nil))))) (.nm 16) (.it (.var 15)) .non [16]) .nil)) .nil))))))
    .nil)) .nil)
    (.cons (.asg (.nm 6) (.ix (.lst false (.cons (.lit (.str "a")) (.cons (.lit (.str "b")) (.cons (.lit (.str "let")) (.cons (.lit (.str "yes")) .nil))))) (.call i_law_take (.cons (.var 0) (.cons (.lit (.int 4)) .nil)))))
    (.cons (.iff (.cmp .lt (.var 5) (.lit (.int 6))) (.cons (.ret (.tup (.cons (.lit (.str "fn")) (.cons (.var 4) (.cons (.var 6) (.cons (.call i_law_any (.cons (.var 0) (.cons (.var 1) (.cons (.bop .add false (.var 2) (.lst false (.cons (.var 6) .nil))) (.cons (.bop .sub false (.var 3) (.lit (.int 1))) .nil))))) .nil))))))
    .nil) .nil)
    (.cons (.iff (.cmp .eq (.var 5) (.lit (.int 6))) (.cons (.ret (.tup (.cons (.lit (.str "loop")) (.cons (.var 4) (.cons (.bop .add false (.var 6) (.lit (.str "f"))) (.cons (.var 6) (.cons (.call i_law_any (.cons (.var 0) (.cons (.var 1) (.cons (.bop .add false (.var 2) (.lst false (.cons (.var 6) (.cons (.bop .add false (.var 6) (.lit (.str "f"))) .nil)))) (.cons (.bop .sub false (.var 3) (.lit (.int 1))) .nil))))) .nil)))))))
    .nil) .nil)
    (.cons (.iff (.cmp .eq (.var 5) (.lit (.int 13))) (.cons (.asg (.nm 10) (.ix (.lst false (.cons (.lit (.str "ref")) (.cons (.lit (.str "get")) (.cons (.lit (.str "held")) .nil)))) (.call i_law_take (.cons (.var 0) (.cons (.lit (.int 3)) .nil)))))
    (.cons (.asg (.nm 7) (.call i_law_any (.cons (.var 0) (.cons (.var 1) (.cons (.var 2) (.cons (.bop .sub false (.var 3) (.lit (.int 1))) .nil))))))
    (.cons (.asg (.nm 11) (.ix (.lst false (.cons (.tup (.cons (.lit (.str "num")) .nil)) (.cons (.tup (.cons (.lit (.str "made")) (.cons (.lit (.str "truth")) (.cons (.tup .nil) .nil)))) (.cons (.tup (.cons (.lit (.str "fn")) (.cons (.tup (.cons (.lit (.str "num")) .nil)) (.cons (.tup (.cons (.lit (.str "ref")) (.cons (.tup (.cons (.lit (.str "num")) .nil)) .nil))) .nil)))) .nil)))) (.call i_law_take (.cons (.var 0) (.cons (.lit (.int 3)) .nil)))))
    (.cons (.ret (.bop .add false (.tup (.cons (.var 10) (.cons (.var 4) (.cons (.var 7) .nil)))) (.bop .mul false (.tup (.cons (.var 11) .nil)) (.bi .int false (.cons (.cmp .eq (.var 10) (.lit (.str "held"))) .nil)))))
    .nil)))) .nil)
    (.cons (.asg (.nm 7) (.call i_law_any (.cons (.var 0) (.cons (.var 1) (.cons (.var 2) (.cons (.bop .sub false (.var 3) (.lit (.int 1))) .nil))))))
    (.cons (.iff (.cmp .eq (.var 5) (.lit (.int 12))) (.cons (.ret (.tup (.cons (.lit (.str "choose")) (.cons (.var 4) (.cons (.var 7) (.cons (.call i_law_rows (.cons (.var 0) (.cons (.var 1) (.cons (.var 2) (.cons (.var 3) .nil))))) .nil))))))
    .nil) .nil)
    (.cons (.asg (.nm 8) (.call i_law_any (.cons (.var 0) (.cons (.var 1) (.cons (.bop .add false (.var 2) (.bop .mul false (.lst false (.cons (.var 6) .nil)) (.bi .int false (.cons (.cmp .isin (.var 5) (.tup (.cons (.lit (.int 9)) (.cons (.lit (.int 10)) .nil)))) .nil)))) (.cons (.bop .sub false (.var 3) (.lit (.int 1))) .nil))))))
    (.cons (.iff (.cmp .isin (.var 5) (.tup (.cons (.lit (.int 9)) (.cons (.lit (.int 10)) .nil)))) (.cons (.ret (.tup (.cons (.lit (.str "let")) (.cons (.var 4) (.cons (.var 6) (.cons (.var 7) (.cons (.var 8) .nil)))))))
    .nil) .nil)
    (.cons (.iff (.cmp .eq (.var 5) (.lit (.int 11))) (.cons (.ret (.tup (.cons (.lit (.str "math")) (.cons (.var 4) (.cons (.ix (.lst false (.cons (.lit (.str "add")) (.cons (.lit (.str "sub")) (.cons (.lit (.str "mul")) (.cons (.lit (.str "less")) (.cons (.lit (.str "same")) .nil)))))) (.call i_law_take (.cons (.var 0) (.cons (.lit (.int 5)) .nil)))) (.cons (.var 7) (.cons (.var 8) .nil)))))))
    .nil) .nil)
    (.cons (.ret (.tup (.cons (.ix (.lst false (.cons (.lit (.str "call")) (.cons (.lit (.str "put")) .nil))) (.bi .int false (.cons (.cmp .eq (.var 5) (.lit (.int 14))) .nil))) (.cons (.var 4) (.cons (.var 7) (.cons (.var 8) .nil))))))
    .nil)))))))))))))))⟩
/-- _law_body, statement 15 of the top; names: box names deep place way one other -/
def N_law_body : List PySem.Str := ["box", "names", "deep", "place", "way", "one", "other"]
def c_law_body : Fn := ⟨3, 7,
    (.cons (.asg (.nm 3) (.call i_law_place (.cons (.var 0) .nil)))
    (.cons (.asg (.nm 4) (.call i_law_take (.cons (.var 0) (.cons (.lit (.int 7)) .nil))))
    (.cons (.iff (.ands (.cons (.cmp .lt (.var 4) (.lit (.int 3))) (.cons (.cmp .ne (.var 1) (.lst false .nil)) .nil))) (.cons (.ret (.tup (.cons (.lit (.str "name")) (.cons (.var 3) (.cons (.ix (.var 1) (.call i_law_take (.cons (.var 0) (.cons (.bi .len false (.cons (.var 1) .nil)) .nil)))) .nil)))))
    .nil) .nil)
    (.cons (.iff (.ors (.cons (.cmp .lt (.var 4) (.lit (.int 4))) (.cons (.cmp .lt (.var 2) (.lit (.int 1))) .nil))) (.cons (.ret (.tup (.cons (.lit (.str "num")) (.cons (.var 3) (.cons (.call i_law_take (.cons (.var 0) (.cons (.lit (.int 9)) .nil))) .nil)))))
    .nil) .nil)
    (.cons (.iff (.cmp .eq (.var 4) (.lit (.int 4))) (.cons (.ret (.tup (.cons (.lit (.str "fn")) (.cons (.var 3) (.cons (.lit (.str "v")) (.cons (.call i_law_body (.cons (.var 0) (.cons (.bop .add false (.var 1) (.lst false (.cons (.lit (.str "v")) .nil))) (.cons (.bop .sub false (.var 2) (.lit (.int 1))) .nil)))) .nil))))))
    .nil) .nil)
    (.cons (.asg (.nm 5) (.call i_law_body (.cons (.var 0) (.cons (.var 1) (.cons (.bop .sub false (.var 2) (.lit (.int 1))) .nil)))))
    (.cons (.asg (.nm 6) (.call i_law_body (.cons (.var 0) (.cons (.var 1) (.cons (.bop .sub false (.var 2) (.lit (.int 1))) .nil)))))
    (.cons (.iff (.cmp .eq (.var 4) (.lit (.int 5))) (.cons (.ret (.tup (.cons (.lit (.str "math")) (.cons (.var 3) (.cons (.lit (.str "add")) (.cons (.var 5) (.cons (.var 6) .nil)))))))
    .nil) .nil)
    (.cons (.ret (.tup (.cons (.lit (.str "call")) (.cons (.var 3) (.cons (.var 5) (.cons (.var 6) .nil))))))
    .nil)))))))))⟩
/-- _law_chain, statement 16 of the top; names: box names many place name one -/
def N_law_chain : List PySem.Str := ["box", "names", "many", "place", "name", "one"]
def c_law_chain : Fn := ⟨3, 6,
    (.cons (.iff (.cmp .eq (.var 2) (.lit (.int 0))) (.cons (.ret (.call i_law_body (.cons (.var 0) (.cons (.var 1) (.cons (.lit (.int 2)) .nil)))))
    .nil) .nil)
    (.cons (.asg (.nm 3) (.call i_law_place (.cons (.var 0) .nil)))
    (.cons (.asg (.nm 4) (.bop .add false (.lit (.str "c")) (.ix (.lit (.str "abcdefghi")) (.var 2))))
    (.cons (.asg (.nm 5) (.call i_law_body (.cons (.var 0) (.cons (.var 1) (.cons (.lit (.int 2)) .nil)))))
    (.cons (.iff (.cmp .gt (.call i_law_take (.cons (.var 0) (.cons (.lit (.int 3)) .nil))) (.lit (.int 0))) (.cons (.asg (.nm 5) (.tup (.cons (.lit (.str "fn")) (.cons (.call i_law_place (.cons (.var 0) .nil)) (.cons (.lit (.str "w")) (.cons (.var 5) .nil))))))
    .nil) .nil)
    (.cons (.ret (.tup (.cons (.lit (.str "let")) (.cons (.var 3) (.cons (.var 4) (.cons (.var 5) (.cons (.call i_law_chain (.cons (.var 0) (.cons (.bop .add false (.var 1) (.lst false (.cons (.var 4) .nil))) (.cons (.bop .sub false (.var 2) (.lit (.int 1))) .nil)))) .nil)))))))
    .nil))))))⟩
/-- _law_inner, statement 17 of the top; names: part found pattern one -/
def N_law_inner : List PySem.Str := ["part", "found", "pattern", "one"]
def c_law_inner : Fn := ⟨1, 4,
    (.cons (.iff (.cmp .eq (.ix (.var 0) (.lit (.int 0))) (.lit (.str "choose"))) (.cons (.asg (.nm 1) (.lst true (.cons (.ix (.var 0) (.lit (.int 2))) .nil)))
    (.cons (.for_ (.tu [2, 3]) (.it (.ix (.var 0) (.lit (.int 3)))) (.cons (.expr (.me .extend false (.var 1) (.cons (.lst false (.cons (.var 2) (.cons (.var 3) .nil))) .nil)))
    .nil))
    (.cons (.ret (.var 1))
    .nil))) .nil)
    (.cons (.iff (.cmp .eq (.ix (.var 0) (.lit (.int 0))) (.lit (.str "tag"))) (.cons (.ret (.bi .list false (.cons (.ix (.var 0) (.lit (.int 3))) .nil)))
    .nil) .nil)
    (.cons (.iff (.cmp .eq (.ix (.var 0) (.lit (.int 0))) (.lit (.str "held"))) (.cons (.ret (.lst false (.cons (.ix (.var 0) (.lit (.int 2))) .nil)))
    .nil) .nil)
    (.cons (.ret (.lc false (.var 3) (.nm 3) (.it (.sl false (.var 0) (.som (.lit (.int 2))) .non)) (.som (.isi (.var 3) .tuple)) [3]))
    .nil))))⟩
/-- _law_count, statement 18 of the top; names: part one -/
def N_law_count : List PySem.Str := ["part", "one"]
def c_law_count : Fn := ⟨1, 2,
    (.cons (.ret (.bop .add false (.lit (.int 1)) (.bi .sum false (.cons (.lc false (.call i_law_count (.cons (.var 1) .nil)) (.nm 1) (.it (.call i_law_inner (.cons (.var 0) .nil))) .non [1]) .nil))))
    .nil)⟩
/-- _law_is_general, statement 19 of the top; names: part one -/
def N_law_is_general : List PySem.Str := ["part", "one"]
def c_law_is_general : Fn := ⟨1, 2,
    (.cons (.iff (.cmp .eq (.ix (.var 0) (.lit (.int 0))) (.lit (.str "tag"))) (.cons (.ret (.cmp .eq (.lc false (.var 1) (.nm 1) (.it (.ix (.var 0) (.lit (.int 3)))) (.som (.inot (.call i_law_is_general (.cons (.var 1) .nil)))) [1]) (.lst false .nil)))
    .nil) .nil)
    (.cons (.ret (.cmp .isin (.ix (.var 0) (.lit (.int 0))) (.tup (.cons (.lit (.str "num")) (.cons (.lit (.str "name")) (.cons (.lit (.str "of")) (.cons (.lit (.str "fn")) (.cons (.lit (.str "loop")) .nil))))))))
    .nil))⟩
/-- _law_drawn, statement 20 of the top; names: script box decls part -/
def N_law_drawn : List PySem.Str := ["script", "box", "decls", "part"]
def c_law_drawn : Fn := ⟨1, 4,
    (.cons (.asg (.nm 1) (.call i_law_box (.cons (.var 0) (.cons (.lit (.int 0)) .nil))))
    (.cons (.asg (.nm 2) (.call i_law_sums (.cons (.var 1) .nil)))
    (.cons (.asg (.nm 1) (.call i_law_box (.cons (.var 0) (.cons (.lit (.int 1)) .nil))))
    (.cons (.put (.var 1) (.lit (.int 3)) (.bop .mod false (.call i_law_cell (.cons (.var 0) (.cons (.lit (.int 2)) .nil))) (.lit (.int 100))))
    (.cons (.iff (.cmp .eq (.bop .mod false (.bop .div false (.call i_law_cell (.cons (.var 0) (.cons (.lit (.int 2)) .nil))) (.lit (.int 1000))) (.lit (.int 3))) (.lit (.int 1))) (.cons (.asg (.nm 3) (.call i_law_chain (.cons (.var 1) (.cons (.lst false .nil) (.cons (.bop .add false (.lit (.int 1)) (.bop .mod false (.bop .div false (.call i_law_cell (.cons (.var 0) (.cons (.lit (.int 2)) .nil))) (.lit (.int 3000))) (.lit (.int 5)))) .nil)))))
    .nil) (.cons (.asg (.nm 3) (.call i_law_any (.cons (.var 1) (.cons (.call i_law_tags (.cons (.var 2) .nil)) (.cons (.lst false .nil) (.cons (.lit (.int 3)) .nil))))))
    .nil))
    (.cons (.iff (.cmp .gt (.call i_law_count (.cons (.var 3) .nil)) (.lit (.int 58))) (.cons (.asg (.nm 3) (.tup (.cons (.lit (.str "fn")) (.cons (.lit (.int 100)) (.cons (.lit (.str "a")) (.cons (.tup (.cons (.lit (.str "name")) (.cons (.lit (.int 101)) (.cons (.lit (.str "a")) .nil)))) .nil))))))
    .nil) .nil)
    (.cons (.ret (.tup (.cons (.var 2) (.cons (.var 3) .nil))))
    .nil)))))))⟩
/-- _law_said, statement 21 of the top; names: found due -/
def N_law_said : List PySem.Str := ["found", "due"]
def c_law_said : Fn := ⟨2, 2,
    (.cons (.ret (.ands (.cons (.isi (.var 0) .bool) (.cons (.cmp .eq (.var 0) (.var 1)) .nil))))
    .nil)⟩
/-- _law_parts, statement 22 of the top; names: part inner found one pattern -/
def N_law_parts : List PySem.Str := ["part", "inner", "found", "one", "pattern"]
def c_law_parts : Fn := ⟨1, 5,
    (.cons (.asg (.nm 1) (.call i_law_inner (.cons (.var 0) .nil)))
    (.cons (.iff (.cmp .eq (.ix (.var 0) (.lit (.int 0))) (.lit (.str "choose"))) (.cons (.asg (.nm 1) (.bop .add false (.lst false (.cons (.ix (.var 0) (.lit (.int 2))) .nil)) (.lc false (.var 3) (.tu [4, 3]) (.it (.ix (.var 0) (.lit (.int 3)))) .non [4, 3])))
    .nil) .nil)
    (.cons (.asg (.nm 2) (.lst true (.cons (.var 0) .nil)))
    (.cons (.for_ (.nm 3) (.it (.var 1)) (.cons (.expr (.me .extend false (.var 2) (.cons (.call i_law_parts (.cons (.var 3) .nil)) .nil)))
    .nil))
    (.cons (.ret (.var 2))
    .nil)))))⟩
/-- law, statement 23 of the top; names: script cell one decls part due nested whole -/
def N_law : List PySem.Str := ["script", "cell", "one", "decls", "part", "due", "nested", "whole"]
def c_law : Fn := ⟨1, 8,
    (.cons (.asg (.tu [3, 4]) (.call i_law_drawn (.cons (.var 0) .nil)))
    (.cons (.asg (.nm 1) (.tup (.cons (.lit (.str "cell")) (.cons (.lit (.int 5000)) (.cons (.bop .mod false (.call i_law_cell (.cons (.var 0) (.cons (.lit (.int 2)) .nil))) (.lit (.int 50))) .nil)))))
    (.cons (.for_ (.nm 2) (.it (.call i_law_parts (.cons (.var 4) .nil))) (.cons (.asg (.nm 5) (.call i_law_is_general (.cons (.var 2) .nil)))
    (.cons (.iff (.inot (.call i_law_said (.cons (.call i_is_general (.cons (.var 2) .nil)) (.cons (.var 5) .nil)))) (.cons (.ret (.lit (.bl false)))
    .nil) .nil)
    (.cons (.asg (.nm 6) (.tup (.cons (.lit (.str "tag")) (.cons (.lit (.int 5001)) (.cons (.lit (.str "no")) (.cons (.tup (.cons (.var 1) (.cons (.tup (.cons (.lit (.str "tag")) (.cons (.lit (.int 5002)) (.cons (.lit (.str "yes")) (.cons (.tup (.cons (.tup (.cons (.lit (.str "cell")) (.cons (.lit (.int 5003)) (.cons (.lit (.int 0)) .nil)))) (.cons (.var 2) .nil))) .nil))))) .nil))) .nil))))))
    (.cons (.for_ (.nm 7) (.it (.lst false (.cons (.tup (.cons (.lit (.str "tag")) (.cons (.lit (.int 5001)) (.cons (.lit (.str "yes")) (.cons (.tup (.cons (.var 2) (.cons (.var 1) .nil))) .nil))))) (.cons (.var 6) .nil)))) (.cons (.iff (.ands (.cons (.cmp .lt (.call i_law_count (.cons (.var 2) .nil)) (.lit (.int 56))) (.cons (.inot (.call i_law_said (.cons (.call i_is_general (.cons (.var 7) .nil)) (.cons (.var 5) .nil)))) .nil))) (.cons (.ret (.lit (.bl false)))
    .nil) .nil)
    .nil))
    .nil)))))
    (.cons (.ret (.ands (.cons (.call i_law_said (.cons (.call i_is_general (.cons (.var 1) .nil)) (.cons (.lit (.bl true)) .nil))) (.cons (.call i_law_said (.cons (.call i_is_general (.cons (.tup (.cons (.lit (.str "tag")) (.cons (.lit (.int 5001)) (.cons (.lit (.str "no")) (.cons (.tup .nil) .nil))))) .nil)) (.cons (.lit (.bl true)) .nil))) .nil))))
    .nil))))⟩
def P : List Fn := [c_is_general, c_law_cell, c_law_mixed, c_law_box, c_law_take, c_law_place, c_law_words, c_law_field, c_law_sums, c_law_tags, c_law_pattern, c_law_rows, c_law_any, c_law_body, c_law_chain, c_law_inner, c_law_count, c_law_is_general, c_law_drawn, c_law_said, c_law_parts, c_law]
end k21

set_option Elab.async false
set_option linter.all false
set_option maxRecDepth 10000
set_option maxHeartbeats 400000
set_option autoImplicit false
namespace k21
open Rx
/-- four ints -/
def B4 (c : Cell) : Prop := ∃ a b d e : Int, c = .lst [.int a, .int b, .int d, .int e]
abbrev Bx (n : Nat) (st : Store) : Prop := Box B4 n st
abbrev Ch (n : Nat) (st st' : Store) : Prop := Chg B4 n st st'
theorem sp_cell {k : Nat} {st : Store} {ns : List Int} {j : Int} (hj : 0 ≤ j) : W (callP P (k + 1) i_law_cell [.ro (ns.map D.int), .int j] st) (fun r st' => st' = st ∧ ∃ i, r = .int i) := by
  rw [callP_succ (show P[i_law_cell]? = some c_law_cell from rfl), runB_eq rfl]
  simp [c_law_cell, startD, evSs, evS, evE, evEs]
  intro h
  obtain ⟨i, e⟩ := atI_ints hj h
  simp [e]
theorem sp_mixed {k : Nat} {st : Store} {c j : Int} : W (callP P (k + 1) i_law_mixed [.int c, .int j] st) (fun r st' => st' = st ∧ ∃ i, r = .int i) := by
  rw [callP_succ (show P[i_law_mixed]? = some c_law_mixed from rfl), runB_eq rfl]
  simp [c_law_mixed, startD, evSs, evS, evE, evEs]
  omega
theorem sp_box {k : Nat} {st : Store} {ns : List Int} {j : Int} (hj : 0 ≤ j) : W (callP P (k + 2) i_law_box [.ro (ns.map D.int), .int j] st) (fun r st' => r = .loc st.length ∧ ∃ c, B4 c ∧ st' = st ++ [c]) := by
  rw [callP_succ (show P[i_law_box]? = some c_law_box from rfl), runB_eq rfl]
  simp [c_law_box, startD, evSs, evS, evE, evEs]
  refine (sp_cell hj).mono ?_
  rintro _ _ ⟨rfl, i, rfl⟩
  simp
  exact ⟨_, _, _, _, rfl⟩
theorem sp_take {k : Nat} {st : Store} {n : Nat} {m : Int} (hb : Bx n st) (h0 : 0 < m) (h1 : m < 1073741824) : W (callP P (k + 2) i_law_take [.loc n, .int m] st) (fun r st' => Ch n st st' ∧ ∃ i, r = .int i ∧ 0 ≤ i ∧ i < m) := by
  rw [callP_succ (show P[i_law_take]? = some c_law_take from rfl), runB_eq rfl]
  obtain ⟨_, e, a, b, c, d, rfl⟩ := id hb
  simp [c_law_take, startD, evSs, evS, evE, evEs, ix_loc e, e, h0, h1, ixN]
  split
  · exact ⟨Chg.set hb ⟨_, _, _, _, rfl⟩, Int.emod_nonneg _ (by omega), Int.emod_lt_of_pos _ h0⟩
  · have e2 : (st.set n (.lst [.int a, .int b, .int (c + 1), .int d]))[n]? = some (.lst [.int a, .int b, .int (c + 1), .int d]) := by simp [hb.lt]
    simp [ix_loc e2]
    refine sp_mixed.mono ?_
    rintro _ _ ⟨rfl, i, rfl⟩
    simp [h0]
    exact ⟨Chg.set hb ⟨_, _, _, _, rfl⟩, Int.emod_nonneg _ (by omega), Int.emod_lt_of_pos _ h0⟩
theorem sp_place {k : Nat} {st : Store} {n : Nat} (hb : Bx n st) : W (callP P (k + 1) i_law_place [.loc n] st) (fun r st' => Ch n st st' ∧ ∃ i, r = .int i) := by
  rw [callP_succ (show P[i_law_place]? = some c_law_place from rfl), runB_eq rfl]
  obtain ⟨_, e, a, b, c, d, rfl⟩ := id hb
  have e2 : ∀ x : Int, (st.set n (.lst [.int a, .int b, .int c, .int x]))[n]? = some (.lst [.int a, .int b, .int c, .int x]) := by simp [hb.lt]
  simp [c_law_place, startD, evSs, evS, evE, evEs, ix_loc e, e, ixN, ix_loc (e2 _)]
  exact Chg.set hb ⟨_, _, _, _, rfl⟩
end k21

set_option Elab.async false
set_option linter.all false
set_option maxRecDepth 10000
set_option maxHeartbeats 400000
set_option autoImplicit false
namespace Rx
/-- texts of at most n signs -/
def Txts (n : Nat) (xs : List D) : Prop := ∀ x ∈ xs, ∃ t : String, x = .str t ∧ t.length ≤ n
theorem Txts.nil {n : Nat} : Txts n [] := fun x h => by cases h
theorem Txts.app {n : Nat} {xs ys : List D} (h : Txts n xs) (h' : Txts n ys) : Txts n (xs ++ ys) := fun x hx => by
  rcases List.mem_append.mp hx with z | z
  · exact h x z
  · exact h' x z
theorem Txts.one {n : Nat} {t : String} (h : t.length ≤ n) : Txts n [.str t] := fun x hx => by
  rw [List.mem_singleton.mp hx]; exact ⟨t, rfl, h⟩
theorem join_len (sep : String) : ∀ l : List String, (joinS sep l).length ≤ joinLen sep.length l
  | [] => by simp [joinS]
  | [x] => by simp [joinS, joinLen]
  | x :: y :: r => by
    have ih := join_len sep (y :: r)
    have e : joinLen sep.length (x :: y :: r) = x.length + (joinLen sep.length (y :: r)) + sep.length := by
      simp [joinLen, Nat.add_mul]; omega
    simp only [joinS, String.length_append, e]
    omega
theorem txts_of {n : Nat} {xs : List D} (h : Txts n xs) : ∃ l, strsD xs = some l ∧ xs = l.map D.str ∧ ∀ s ∈ l, s.length ≤ n := strs_of (p := fun s => s.length ≤ n) h
theorem joinLen_le {n : Nat} : ∀ {l : List String}, (∀ s ∈ l, s.length ≤ n) → joinLen 0 l ≤ l.length * n
  | [], _ => by simp [joinLen]
  | x :: l, h => by
    have h1 := h x (by simp)
    have h2 := joinLen_le (l := l) fun s hs => h s (by simp [hs])
    simp only [joinLen, Nat.mul_zero, Nat.add_zero, List.map_cons, List.sum_cons, List.length_cons] at h2 ⊢
    rw [Nat.add_mul]; omega
theorem cut_len {α : Type} {xs : List α} {lo hi : Option Int} : (cut xs lo hi).length ≤ xs.length := by
  unfold cut
  rw [List.length_take, List.length_drop]; omega
end Rx
namespace k21
open Rx
theorem sp_words {k : Nat} {st : Store} {n : Nat} {m : Int} (hb : Bx n st) (h0 : 0 ≤ m) (h1 : m ≤ 12) : W (callP P (k + 3) i_law_words [.loc n, .int m] st) (fun r st' => Ch n st st' ∧ ∃ xs, r = .lst xs ∧ xs.length = m.toNat ∧ Txts 10 xs) := by
  rw [callP_succ (show P[i_law_words]? = some c_law_words from rfl), runB_eq rfl]
  simp [c_law_words, startD, evSs, evS, evE, evEs, evI, evC, evO, meIs]
  refine (sp_take hb (by omega) (by omega)).mono ?_
  rintro _ s1 ⟨c1, i, rfl, g0, g1⟩
  refine (sp_take c1.box (by omega) (by omega)).mono ?_
  rintro _ s2 ⟨c2, j, rfl, g2, g3⟩
  have g4 : -4611686018427387904 ≤ j ∧ j < 4611686018427387904 := by omega
  simp [g4]
  refine W_lc (fun r acc s => Ch n st s ∧ acc.length + r.length ≤ 3 ∧ Txts 1 acc) (fun _ _ _ _ => rfl) ?_ ?_ _ _ _ ⟨c1.trans c2, by simp [rng_len]; omega, Txts.nil⟩
  · rintro x r acc s ⟨c3, hl, ha⟩
    simp only [List.length_cons] at hl
    simp [wipeD]
    refine (sp_take c3.box (by omega) (by omega)).mono ?_
    rintro _ s4 ⟨c4, l, rfl, g5, g6⟩
    obtain ⟨ch, e1, e2⟩ := atI_of (xs := "abcd".toList) g5 (by simpa using g6)
    rw [ix_str e1 (by decide)]
    simp
    exact ⟨by simp only [LINE]; omega, c3.trans c4, by omega, ha.app (Txts.one (by simp))⟩
  · rintro acc s ⟨c3, hl, ha⟩
    obtain ⟨ls, e1, rfl, h3⟩ := txts_of ha
    simp only [List.length_map, List.length_nil] at hl
    rw [me_join e1]
    have z1 := joinLen_le h3
    have z2 := join_len "" ls
    have z3 : ("" : String).length = 0 := rfl
    rw [z3] at z2 ⊢
    refine ⟨by simp only [LINE]; omega, ?_⟩
    have tl : (joinS "" ls).length ≤ 3 := by omega
    generalize joinS "" ls = tail at tl ⊢
    have tL : tail.length ≤ LINE := by simp only [LINE]; omega
    simp [tL]
    refine (sp_take c3.box (by omega) (by omega)).mono ?_
    rintro _ s5 ⟨c5, q, rfl, g7, g8⟩
    have g9 : -4611686018427387904 ≤ m ∧ m < 4611686018427387904 := by omega
    simp [g9]
    refine W_lc (fun r acc s => s = s5 ∧ acc.length + r.length = m.toNat ∧ Txts 10 acc ∧ ∀ x ∈ r, ∃ j : Int, x = .int j ∧ 0 ≤ j ∧ j ≤ 12) (fun _ _ _ _ => rfl) ?_ ?_ _ _ _ ⟨rfl, by simp [rng_len], Txts.nil, ?_⟩
    · rintro x r acc s ⟨rfl, hl, ha, hx⟩
      obtain ⟨v, rfl, v0, v1⟩ := hx x (by simp)
      simp only [List.length_cons] at hl
      simp [wipeD, evO, evE, sliV, tL]
      obtain ⟨ch, e2, e3⟩ := atI_of (xs := "abcdefghijklmnopqrstuvwxyz".toList) (i := (i + 7 * v) % 26) (Int.emod_nonneg _ (by omega)) (by
        have := Int.emod_lt_of_pos (i + 7 * v) (show (0 : Int) < 26 by omega)
        simpa using this)
      rw [ix_str e2 (by decide)]
      have l1 : (String.ofList (cut tail.toList none (some q))).length ≤ 3 := by
        rw [String.length_ofList]
        have := cut_len (xs := tail.toList) (lo := none) (hi := some q)
        rw [String.length_toList] at this; omega
      have l2 : (String.ofList (cut tail.toList (some q) none)).length ≤ 3 := by
        rw [String.length_ofList]
        have := cut_len (xs := tail.toList) (lo := some q) (hi := none)
        rw [String.length_toList] at this; omega
      have l3 : (String.ofList [ch]).length = 1 := by simp
      generalize String.ofList (cut tail.toList none (some q)) = u1 at l1 ⊢
      generalize String.ofList (cut tail.toList (some q) none) = u2 at l2 ⊢
      generalize String.ofList [ch] = u3 at l3 ⊢
      simp only [of_some, W_ok, W_adds, String.length_append, LINE, true_and]
      exact ⟨by omega, by omega, by omega, by omega, ha.app (Txts.one (by simp only [String.length_append]; omega)), fun x hx' => hx x (by simp [hx'])⟩
    · rintro acc s ⟨rfl, hl, ha, hx⟩
      simp at hl ⊢
      exact ⟨c3.trans c5, hl, ha⟩
    · intro x hx
      unfold rng at hx
      obtain ⟨u, hu, rfl⟩ := List.mem_map.mp hx
      have := List.mem_range.mp hu
      exact ⟨_, rfl, by omega, by omega⟩
end k21

set_option Elab.async false
set_option linter.all false
set_option maxRecDepth 10000
set_option maxHeartbeats 400000
set_option autoImplicit false
namespace Rx
theorem W_mull {m : Bool} {xs : List D} {k : Int} {st : Store} {Q : D → Store → Prop} : W (bop .mul m (.lst xs) (.int k) st) Q ↔ (xs.length * k.toNat ≤ LINE ∧ -(2 ^ 63) ≤ k ∧ k < 2 ^ 63) ∧ W (newL m (List.replicate k.toNat xs).flatten st) Q := by
  have : bop .mul m (.lst xs) (.int k) st = if xs.length * k.toNat ≤ LINE ∧ -(2 ^ 63) ≤ k ∧ k < 2 ^ 63 then newL m (List.replicate k.toNat xs).flatten st else .no := rfl
  rw [this]
  exact W_guard
theorem W_ixv {xs : List D} {i : Int} {st : Store} {Q : D → Store → Prop} (h0 : 0 ≤ i) (h1 : i < xs.length) (h : ∀ r ∈ xs, Q r st) : W (Res.of (ixV (.lst xs) (.int i) st) st) Q := by
  obtain ⟨r, e1, e2⟩ := atI_of h0 h1
  rw [ix_lst, e1]
  exact h r e2
theorem it_loc {n : Nat} {xs : List D} {st : Store} (h : st[n]? = some (.lst xs)) : itOf (.loc n) st = some ⟨xs, [(n, xs)]⟩ := by simp only [itOf, wlkL, h]
end Rx
namespace k21
open Rx
/-- a sum as the law makes it -/
def Decl (d : D) : Prop := ∃ (pl : Int) (w : String) (a : Int) (tags : List D), d = .tup [.str "sum", .int pl, .str w, .int a, .tup tags] ∧ 0 ≤ a ∧ a < 3
theorem sp_field {k : Nat} {st : Store} {n m : Nat} {ds : List D} {nm : String} {args : Int} {later : Bool} (hb : Bx n st) (hmn : m ≠ n) (hm : st[m]? = some (.lst ds)) (hd : ∀ d ∈ ds, Decl d) (hl : ds.length ≤ 3) (h0 : 0 ≤ args) (h1 : args < 3) :
    W (callP P (k + 3) i_law_field [.loc n, .loc m, .str nm, .int args, .bl later] st) (fun r st' => Ch n st st') := by
  rw [callP_succ (show P[i_law_field]? = some c_law_field from rfl), runB_eq rfl]
  have g4 : -4611686018427387904 ≤ args ∧ args < 4611686018427387904 := by omega
  simp [c_law_field, startD, evSs, evS, evE, evEs, evI, evC, g4]
  refine W_lc (fun r acc s => s = st ∧ acc.length + r.length = args.toNat) (fun _ _ _ _ => rfl) ?_ ?_ _ _ _ ⟨rfl, by simp [rng_len]⟩
  · rintro x r acc s ⟨rfl, hl⟩
    simp only [List.length_cons] at hl
    simp [wipeD]
    exact ⟨by simp only [LINE]; omega, by omega⟩
  · rintro opens s ⟨rfl, hlo⟩
    simp only [List.length_nil, Nat.add_zero] at hlo
    simp [W_mull, it_loc hm]
    refine ⟨by simp only [LINE]; omega, by simp only [LINE]; omega, ?_⟩
    split
    · refine ⟨by simp only [LINE]; omega, ?_⟩
      refine W_lc (fun r acc s' => s' = s ∧ acc.length + r.length = ds.length ∧ ∀ x ∈ r, Decl x) (fun r acc s' h => by rw [h.1]; exact guard_loc hm) ?_ ?_ _ _ _ ⟨rfl, by simp, hd⟩
      · rintro x r acc s' ⟨rfl, hl2, hx⟩
        obtain ⟨pl, w, a, tags, rfl, a0, a1⟩ := hx x (by simp)
        simp only [List.length_cons] at hl2
        simp [wipeD]
        exact ⟨⟨by omega, by omega⟩, by simp only [LINE]; omega, by omega, fun y hy => hx y (by simp [hy])⟩
      · rintro acc s' ⟨rfl, hl2, _⟩
        simp only [List.length_nil, Nat.add_zero] at hl2
        refine ⟨by simp only [LINE]; omega, ?_⟩
        refine (sp_take hb (by omega) (by omega)).mono ?_
        rintro _ s2 ⟨c2, i, rfl, g0, g1⟩
        exact W_ixv g0 (by simp; omega) fun r _ => c2
    · refine W_lc (fun r acc s' => s' = s ∧ acc.length + r.length = ds.length ∧ ∀ x ∈ r, Decl x) (fun r acc s' h => by rw [h.1]; exact guard_loc hm) ?_ ?_ _ _ _ ⟨rfl, by simp, hd⟩
      · rintro x r acc s' ⟨rfl, hl2, hx⟩
        obtain ⟨pl, w, a, tags, rfl, a0, a1⟩ := hx x (by simp)
        simp only [List.length_cons] at hl2
        simp [wipeD]
        exact ⟨⟨by omega, by omega⟩, by simp only [LINE]; omega, by omega, fun y hy => hx y (by simp [hy])⟩
      · rintro acc s' ⟨rfl, hl2, _⟩
        simp only [List.length_nil, Nat.add_zero] at hl2
        refine ⟨by simp only [LINE]; omega, ?_⟩
        refine (sp_take hb (by omega) (by omega)).mono ?_
        rintro _ s2 ⟨c2, i, rfl, g0, g1⟩
        exact W_ixv g0 (by simp; omega) fun r _ => c2
end k21

set_option Elab.async false
set_option linter.all false
set_option maxRecDepth 10000
set_option maxHeartbeats 600000
set_option autoImplicit false
namespace Rx
theorem app_is {n : Nat} {xs : List D} {st : Store} (h : st[n]? = some (.lst xs)) : meIs st .append (.loc n) = true := by simp only [meIs, h]
theorem W_app {m : Bool} {n : Nat} {d : D} {xs : List D} {st : Store} {Q : D → Store → Prop} (h : st[n]? = some (.lst xs)) : W (meV .append m (.loc n) [d] st) Q ↔ xs.length < LINE ∧ Q .non (st.set n (.lst (xs ++ [d]))) := by
  have : meV .append m (.loc n) [d] st = if xs.length < LINE then .ok .non (st.set n (.lst (xs ++ [d]))) else .no := by
    simp only [meV, h]
  rw [this]
  exact W_guard
theorem int_bl {m b : Bool} {st : Store} : biV .int m [.bl b] st = .ok (.int (if b then 1 else 0)) st := rfl
end Rx
namespace k21
open Rx
/-- a tag of a sum -/
def TagF (t : D) : Prop := ∃ (w : String) (fs : List D), t = .tup [.str w, .tup fs] ∧ w.length ≤ 10 ∧ fs.length ≤ 3
def DeclF (d : D) : Prop := ∃ (pl : Int) (w : String) (a : Int) (tags : List D), d = .tup [.str "sum", .int pl, .str w, .int a, .tup tags] ∧ 0 ≤ a ∧ a < 3 ∧ tags.length ≤ 5 ∧ ∀ t ∈ tags, TagF t
theorem DeclF.decl {d : D} (h : DeclF d) : Decl d := by
  obtain ⟨pl, w, a, tags, rfl, h0, h1, _⟩ := h
  exact ⟨pl, w, a, tags, rfl, h0, h1⟩
theorem rng_mem {i j : Int} {x : D} (h : x ∈ rng i j) : ∃ v : Int, x = .int v ∧ i ≤ v ∧ v < j := by
  unfold rng at h
  obtain ⟨u, hu, rfl⟩ := List.mem_map.mp h
  have := List.mem_range.mp hu
  exact ⟨_, rfl, by omega, by omega⟩
theorem sp_sums {k : Nat} {st : Store} {n : Nat} (hb : Bx n st) : W (callP P (k + 4) i_law_sums [.loc n] st) (fun r st' => Ch n st st' ∧ ∃ ds, r = .tup ds ∧ ds.length ≤ 2 ∧ ∀ d ∈ ds, DeclF d) := by
  rw [callP_succ (show P[i_law_sums]? = some c_law_sums from rfl), runB_eq rfl]
  simp [c_law_sums, startD, evSs, evS, evE, evEs, evI, evC]
  refine (sp_words hb (by omega) (by omega)).mono ?_
  rintro _ s1 ⟨c1, ws, rfl, hw, tw⟩
  refine (sp_take c1.box (by omega) (by omega)).mono ?_
  rintro _ s2 ⟨c2, i, rfl, g0, g1⟩
  simp [int_bl]
  have hmost : ∃ most : Int, atI [D.int 3, .int 5] (if i = 7 then 1 else 0) = some (.int most) ∧ (most = 3 ∨ most = 5) := by
    split
    · exact ⟨5, by simp, .inr rfl⟩
    · exact ⟨3, by simp, .inl rfl⟩
  obtain ⟨most, em, hm⟩ := hmost
  rw [em]
  simp
  have c2' : Ch n st s2 := c1.trans c2
  have hn : s2.length ≠ n := by have := c2.box.lt; omega
  have hst : st.length ≤ s2.length := c2'.len
  have c3' : Ch n st (s2 ++ [.lst []]) := c2'.app
  refine (sp_take c3'.box (by omega) (by omega)).mono ?_
  rintro _ s3 ⟨c3, j, rfl, g2, g3⟩
  have m3 : s3[s2.length]? = some (.lst []) := c3.at hn (by simp)
  have g4 : -4611686018427387904 ≤ j ∧ j < 4611686018427387904 := by omega
  simp [g4]
  have wat : ∀ v : Int, 0 ≤ v → v < 12 → ∃ t : String, atI ws v = some (.str t) ∧ t.length ≤ 10 := fun v h0 h1 => by
    obtain ⟨x, e1, e2⟩ := atI_of (xs := ws) h0 (by rw [hw]; simpa using h1)
    obtain ⟨t, rfl, ht⟩ := tw x e2
    exact ⟨t, e1, ht⟩
  refine W_for (fun r ρ s => Ch n st s ∧ (∃ o4 o5 o6 o7 o8 o9 o10 o11, ρ = [some (.loc n), some (.lst ws), some (.int most), some (.loc s2.length), o4, o5, o6, o7, o8, o9, o10, o11]) ∧
    ∃ ds, s[s2.length]? = some (.lst ds) ∧ ds.length + r.length ≤ 2 ∧ (∀ d ∈ ds, DeclF d) ∧ ∀ x ∈ r, ∃ v : Int, x = .int v ∧ 0 ≤ v ∧ v < 2) (fun _ _ _ _ => rfl) ?_ ?_ _ _ _
    ⟨c3'.trans c3, ⟨_, _, _, _, _, _, _, _, rfl⟩, [], m3, by simp [rng_len]; omega, by simp, fun x hx => ?_⟩
  · rintro x r ρ s ⟨c4, ⟨o4, o5, o6, o7, o8, o9, o10, o11, rfl⟩, ds, hds, hl, hd, hr⟩
    obtain ⟨v, rfl, v0, v1⟩ := hr x (by simp)
    simp only [List.length_cons] at hl
    simp
    refine (sp_take c4.box (by omega) (by omega)).mono ?_
    rintro _ s5 ⟨c5, a, rfl, a0, a1⟩
    refine (sp_place c5.box).mono ?_
    rintro _ s6 ⟨c6, pl, rfl⟩
    have c46 : Ch n st s6 := (c4.trans c5).trans c6
    have m6 : s6[s2.length]? = some (.lst ds) := c6.at hn (c5.at hn hds)
    have l6 : s2.length < s6.length := (List.getElem?_eq_some_iff.mp m6).1
    have hn6 : s6.length ≠ n := by have := c6.box.lt; omega
    have c7' : Ch n st (s6 ++ [.lst []]) := c46.app
    refine (sp_take c7'.box (by omega) (by omega)).mono ?_
    rintro _ s7 ⟨c7, q, rfl, q0, q1⟩
    have m7 : s7[s2.length]? = some (.lst ds) := c7.at hn (by rw [List.getElem?_append_left l6]; exact m6)
    have t7 : s7[s6.length]? = some (.lst []) := c7.at hn6 (by simp)
    have g5 : -4611686018427387904 ≤ 1 + q ∧ 1 + q < 4611686018427387904 := by omega
    simp [g5]
    refine W_for (fun r' ρ s => Ch n st s ∧ (∃ o8 o9 o10 o11, ρ = [some (.loc n), some (.lst ws), some (.int most), some (.loc s2.length), some (.int v), some (.int a), some (.int pl), some (.loc s6.length), o8, o9, o10, o11]) ∧
      s[s2.length]? = some (.lst ds) ∧ ∃ ts, s[s6.length]? = some (.lst ts) ∧ ts.length + r'.length ≤ 5 ∧ (∀ t ∈ ts, TagF t) ∧ ∀ x ∈ r', ∃ v : Int, x = .int v ∧ 0 ≤ v ∧ v < 5) (fun _ _ _ _ => rfl) ?_ ?_ _ _ _
      ⟨c7'.trans c7, ⟨_, _, _, _, rfl⟩, m7, [], t7, by simp [rng_len]; omega, by simp, fun x hx => ?_⟩
    · rintro x r' ρ s ⟨c8, ⟨o8', o9', o10', o11', rfl⟩, m8, ts, t8, hl8, ht8, hr8⟩
      obtain ⟨u, rfl, u0, u1⟩ := hr8 x (by simp)
      simp only [List.length_cons] at hl8
      simp
      have q4 : 0 < most - most / 4 ∧ most - most / 4 ≤ 4 := by rcases hm with rfl | rfl <;> decide
      refine (sp_take c8.box q4.1 (by omega)).mono ?_
      rintro _ s9 ⟨c9, f, rfl, f0, f1⟩
      have g6 : -4611686018427387904 ≤ f ∧ f < 4611686018427387904 := by omega
      simp [g6]
      refine W_lc (fun r'' acc s => Ch n st s ∧ s[s2.length]? = some (.lst ds) ∧ s[s6.length]? = some (.lst ts) ∧ acc.length + r''.length ≤ 3) (fun _ _ _ _ => rfl) ?_ ?_ _ _ _
        ⟨c8.trans c9, c9.at hn m8, c9.at hn6 t8, by simp [rng_len]; omega⟩
      · rintro x r'' acc s ⟨d1, d2, d3, d4⟩
        simp only [List.length_cons] at d4
        obtain ⟨t, e, ht⟩ := wat v v0 (by omega)
        simp [wipeD, e]
        refine (sp_field d1.box hn d2 (fun d hd' => (hd d hd').decl) (by omega) a0 a1).mono ?_
        rintro y s10 d5
        exact ⟨by simp only [LINE]; omega, d1.trans d5, d5.at hn d2, d5.at hn6 d3, by omega⟩
      · rintro acc s ⟨d1, d2, d3, d4⟩
        simp only [List.length_nil, Nat.add_zero] at d4
        obtain ⟨t, e, ht⟩ := wat (2 + 5 * v + u) (by omega) (by omega)
        have l8 := (List.getElem?_eq_some_iff.mp d3).1
        refine ⟨app_is d3, ?_⟩
        rw [e, of_some, W_ok, W_app d3]
        refine ⟨by simp only [LINE]; omega, d1.set' hn6 (by omega), by rw [List.getElem?_set_ne (by omega)]; exact d2, ts ++ [.tup [.str t, .tup acc]], by simp [l8], by simp; omega, fun z hz => ?_, fun x hx => hr8 x (by simp [hx])⟩
        rcases List.mem_append.mp hz with hz | hz
        · exact ht8 z hz
        · rw [List.mem_singleton.mp hz]; exact ⟨t, acc, rfl, ht, d4⟩
    · rintro ρ s ⟨c8, ⟨o8', o9', o10', o11', rfl⟩, m8, ts, t8, hl8, ht8, hr8⟩
      simp only [List.length_nil, Nat.add_zero] at hl8
      obtain ⟨t, e, ht⟩ := wat v v0 (by omega)
      have l8 := (List.getElem?_eq_some_iff.mp m8).1
      have l6' := c46.len
      simp [app_is m8, e, tup_loc t8]
      rw [W_app m8]
      refine ⟨by simp only [LINE]; omega, ?_⟩
      simp [l8]
      refine ⟨c8.set' hn (by omega), by omega, fun d hd' => ?_, fun x hx => hr x (by simp [hx])⟩
      rcases hd' with hd' | rfl
      · exact hd d hd'
      · exact ⟨pl, t, a, ts, rfl, a0, a1, hl8, ht8⟩
    · obtain ⟨u, rfl, u0, u1⟩ := rng_mem hx
      exact ⟨u, rfl, u0, by omega⟩
  · rintro ρ s ⟨c4, ⟨o4, o5, o6, o7, o8, o9, o10, o11, rfl⟩, ds, hds, hl, hd, hr⟩
    simp [tup_loc hds]
    simp at hl
    exact ⟨c4, hl, hd⟩
  · obtain ⟨v, rfl, v0, v1⟩ := rng_mem hx
    exact ⟨v, rfl, v0, by omega⟩
end k21

set_option Elab.async false
set_option linter.all false
set_option maxRecDepth 10000
set_option maxHeartbeats 600000
set_option autoImplicit false
namespace Rx
theorem W_forD {g : Store → Bool} {f : D → Slots → Store → Res Fl} {st : Store} {ρ : Slots} {Q : Fl → Store → Prop} (I : List D → Slots → Store → Prop) {as : List D} (h0 : I [] ρ st) (hg : ∀ ds ρ s, I ds ρ s → g s = true)
    (h : ∀ ds a ts, as = ds ++ a :: ts → ∀ ρ s, I ds ρ s → W (f a ρ s) fun o s' => match o with
      | .nx ρ => I (ds ++ [a]) ρ s'
      | .rt v => Q (.rt v) s') (hq : ∀ ρ s, I as ρ s → Q (.nx ρ) s) : W (forL g f as ρ st) Q := by
  have := W_forA I (fun d => d) (as := as) (f := f) (Q := Q) h0 hg h hq
  simpa using this
end Rx
namespace k21
open Rx
/-- a tag as the makers of parts see it: its word, its fields at most m -/
def TagR (m : Nat) (t : D) : Prop := ∃ (w o : String) (a : Int) (fs : List D), t = .tup [.str w, .str o, .int a, .tup fs] ∧ w.length ≤ 10 ∧ fs.length ≤ m
def Tags (ts : List D) : Prop := ∃ y z r, ts = y :: z :: r ∧ TagR 0 y ∧ TagR 0 z ∧ (∀ t ∈ r, TagR 3 t) ∧ r.length ≤ 10
theorem sp_tags {k : Nat} {st : Store} {ds : List D} (hd : ∀ d ∈ ds, DeclF d) (hl : ds.length ≤ 2) : W (callP P (k + 1) i_law_tags [.tup ds] st) (fun r st' => Ext st st' ∧ ∃ m ts, r = .loc m ∧ st.length ≤ m ∧ st'[m]? = some (.lst ts) ∧ Tags ts) := by
  rw [callP_succ (show P[i_law_tags]? = some c_law_tags from rfl), runB_eq rfl]
  simp [c_law_tags, startD, evSs, evS, evE, evEs, evI, evC, itOf]
  refine W_forD (fun done ρ s => (∃ o2 o3 o4 o5 o6 o7 o8, ρ = [some (.tup ds), some (.loc st.length), o2, o3, o4, o5, o6, o7, o8]) ∧ Ext st s ∧ ∃ ts, s[st.length]? = some (.lst (.tup [.str "yes", .str "truth", .int 0, .tup []] :: .tup [.str "no", .str "truth", .int 0, .tup []] :: ts)) ∧
    (∀ t ∈ ts, TagR 3 t) ∧ ts.length ≤ 5 * done.length) ?_ (fun _ _ _ _ => rfl) ?_ ?_
  · exact ⟨⟨_, _, _, _, _, _, _, rfl⟩, Ext.app, [], by simp, by simp, by simp⟩
  · rintro done a ts' hdt ρ s ⟨⟨o2, o3, o4, o5, o6, o7, o8, rfl⟩, e1, ts, e2, e3, e4⟩
    obtain ⟨pl, w, ar, tags, rfl, a0, a1, tl, tf⟩ := hd a (by rw [hdt]; simp)
    simp [bindT, setAll, ext_is e2, itOf]
    have hdl : done.length ≤ 2 := by rw [hdt] at hl; simp at hl; omega
    refine W_lc (fun r acc s' => s' = s ∧ acc.length + r.length = tags.length ∧ (∀ t ∈ acc, TagR 3 t) ∧ ∀ t ∈ r, TagF t) (fun _ _ _ _ => rfl) ?_ ?_ _ _ _ ⟨rfl, by simp, by simp, tf⟩
    · rintro x r acc s' ⟨rfl, h1, h2, h3⟩
      obtain ⟨tw, fs, rfl, t1, t2⟩ := h3 x (by simp)
      simp only [List.length_cons] at h1
      simp [bindT, setAll, wipeD]
      refine ⟨by simp only [LINE]; omega, by omega, fun t ht => ?_, fun t ht => h3 t (by simp [ht])⟩
      rcases ht with ht | rfl
      · exact h2 t ht
      · exact ⟨tw, w, ar, fs, rfl, t1, t2⟩
    · rintro acc s' ⟨rfl, h1, h2, _⟩
      simp only [List.length_nil, Nat.add_zero] at h1
      have l8 := (List.getElem?_eq_some_iff.mp e2).1
      rw [ext_loc e2 rfl]
      refine ⟨by simp [LINE]; omega, ?_⟩
      simp [l8]
      refine ⟨e1.set (Nat.le_refl _), fun t ht => ?_, by omega⟩
      rcases ht with ht | ht
      · exact e3 t ht
      · exact h2 t ht
  · rintro ρ s ⟨⟨o2, o3, o4, o5, o6, o7, o8, rfl⟩, e1, ts, e2, e3, e4⟩
    simp
    exact ⟨e1, _, e2, _, _, _, rfl, ⟨_, _, _, _, rfl, by decide, by simp⟩, ⟨_, _, _, _, rfl, by decide, by simp⟩, e3, by omega⟩
end k21

set_option Elab.async false
set_option linter.all false
set_option maxRecDepth 10000
set_option maxHeartbeats 600000
set_option autoImplicit false
namespace k21
open Rx
mutual
/-- a part or a pattern -/
inductive Prt where
  | nd (h : String) (pl : Int) (its : List It)
  | tag (pl : Int) (w : String) (ps : List Prt)
  | held (pl : Int) (a : Prt) (kind : D)
  | choose (pl : Int) (a : Prt) (rows : List Row)
inductive It where
  | leaf (d : D)
  | kid (p : Prt)
inductive Row where
  | mk (p a : Prt)
end
mutual
def pD : Prt → D
  | .nd h pl its => .tup (.str h :: .int pl :: iDs its)
  | .tag pl w ps => .tup [.str "tag", .int pl, .str w, .tup (pDs ps)]
  | .held pl a kind => .tup [.str "held", .int pl, pD a, kind]
  | .choose pl a rows => .tup [.str "choose", .int pl, pD a, .tup (rDs rows)]
def pDs : List Prt → List D
  | [] => []
  | p :: ps => pD p :: pDs ps
def iD : It → D
  | .leaf d => d
  | .kid p => pD p
def iDs : List It → List D
  | [] => []
  | i :: is => iD i :: iDs is
def rD : Row → D
  | .mk p a => .tup [pD p, pD a]
def rDs : List Row → List D
  | [] => []
  | r :: rs => rD r :: rDs rs
end
mutual
/-- how deep -/
def psz : Prt → Nat
  | .nd _ _ its => 1 + iszs its
  | .tag _ _ ps => 1 + pszs ps
  | .held _ a _ => 1 + psz a
  | .choose _ a rows => 1 + max (psz a) (rszs rows)
def pszs : List Prt → Nat
  | [] => 0
  | p :: ps => max (psz p) (pszs ps)
def isz : It → Nat
  | .leaf _ => 0
  | .kid p => psz p
def iszs : List It → Nat
  | [] => 0
  | i :: is => max (isz i) (iszs is)
def rsz : Row → Nat
  | .mk p a => max (psz p) (psz a)
def rszs : List Row → Nat
  | [] => 0
  | r :: rs => max (rsz r) (rszs rs)
end
theorem pDs_map : ∀ ps : List Prt, pDs ps = ps.map pD
  | [] => rfl
  | p :: ps => by simp [pDs, pDs_map ps]
theorem iDs_map : ∀ ps : List It, iDs ps = ps.map iD
  | [] => rfl
  | p :: ps => by simp [iDs, iDs_map ps]
theorem rDs_map : ∀ ps : List Row, rDs ps = ps.map rD
  | [] => rfl
  | p :: ps => by simp [rDs, rDs_map ps]
end k21

set_option Elab.async false
set_option linter.all false
set_option maxRecDepth 10000
set_option maxHeartbeats 800000
set_option autoImplicit false
namespace Rx
theorem atI_last {α : Type} {xs : List α} {d : α} : atI (xs ++ [d]) (-1) = some d := by
  have h2 : -((xs.length : Int) + 1) ≤ -1 := by omega
  have h3 : (-1 + ((xs.length : Int) + 1)).toNat = xs.length := by omega
  simp [atI, ixN, h2, h3]
end Rx
namespace k21
open Rx
def leafB : D → Bool
  | .str _ | .int _ => true
  | _ => false
mutual
def wf : Prt → Bool
  | .nd h _ its => !(h == "choose") && !(h == "tag") && !(h == "held") && !(h == "cell") && decide (its.length ≤ 5) && iwfs its
  | .tag _ _ ps => decide (ps.length ≤ 5) && wfs ps
  | .held _ a _ => wf a
  | .choose _ a rows => wf a && decide (rows.length ≤ 10) && rwfs rows
def wfs : List Prt → Bool
  | [] => true
  | p :: ps => wf p && wfs ps
def iwf : It → Bool
  | .leaf d => leafB d
  | .kid p => wf p
def iwfs : List It → Bool
  | [] => true
  | i :: is => iwf i && iwfs is
def rwf : Row → Bool
  | .mk p a => wf p && wf a
def rwfs : List Row → Bool
  | [] => true
  | r :: rs => rwf r && rwfs rs
end
/-- a part or pattern, at most m deep -/
def Pt (m : Nat) (r : D) : Prop := ∃ p, r = pD p ∧ wf p = true ∧ psz p ≤ m
theorem Pt.mono {m m' : Nat} {r : D} (h : Pt m r) (h' : m ≤ m') : Pt m' r := by
  obtain ⟨p, h1, h2, h3⟩ := h
  exact ⟨p, h1, h2, by omega⟩
theorem pts_of {m : Nat} : ∀ {l : List D}, (∀ x ∈ l, Pt m x) → ∃ ps, l = pDs ps ∧ wfs ps = true ∧ pszs ps ≤ m ∧ ps.length = l.length
  | [], _ => ⟨[], rfl, rfl, by simp [pszs], rfl⟩
  | x :: l, h => by
    obtain ⟨p, rfl, h2, h3⟩ := h x (by simp)
    obtain ⟨ps, rfl, h5, h6, h7⟩ := pts_of (l := l) fun y hy => h y (by simp [hy])
    refine ⟨p :: ps, rfl, by simp only [wfs, h2, h5]; rfl, ?_, by simp [h7]⟩
    simp only [pszs]; omega
theorem pt_tag {m : Nat} {pl : Int} {w : String} {l : List D} (hl : l.length ≤ 5) (h : ∀ x ∈ l, Pt m x) : Pt (1 + m) (.tup [.str "tag", .int pl, .str w, .tup l]) := by
  obtain ⟨ps, rfl, h5, h6, h7⟩ := pts_of h
  exact ⟨.tag pl w ps, rfl, by simp only [wf, h5, h7, hl]; rfl, by simp only [psz]; omega⟩
theorem Tags.at {ts : List D} (h : Tags ts) {i : Int} (h0 : 0 ≤ i) (h1 : i < ts.length) : ∃ t, atI ts i = some t ∧ TagR 3 t := by
  obtain ⟨x, e1, e2⟩ := atI_of h0 h1
  obtain ⟨y, z, r, rfl, a, b, c, _⟩ := h
  have up : ∀ {t}, TagR 0 t → TagR 3 t := fun ⟨w, o, a, fs, e, p, q⟩ => ⟨w, o, a, fs, e, p, by omega⟩
  refine ⟨x, e1, ?_⟩
  simp only [List.mem_cons] at e2
  rcases e2 with rfl | rfl | e2
  · exact up a
  · exact up b
  · exact c x e2
theorem Tags.pos {ts : List D} (h : Tags ts) : 2 ≤ ts.length ∧ ts.length ≤ 12 := by
  obtain ⟨y, z, r, rfl, _, _, _, d⟩ := h
  simp; omega
theorem one_txt {i : Int} (h0 : 0 ≤ i) (h1 : i < 8) : ∃ c : Char, atI "pqrstuvw".toList i = some c := by
  obtain ⟨c, e, _⟩ := atI_of (xs := "pqrstuvw".toList) h0 (by simpa using h1)
  exact ⟨c, e⟩
/-- the leaf of a pattern: a name is put into the list of names -/
theorem any_step {k : Nat} {st0 s s2 : Store} {n pn : Nat} {xs : List D} {pl : Int} (Q : D → Store → Prop) (c02 : Ch n st0 s2) (h5 : pn ≠ n) (h6 : st0.length ≤ pn) (m2 : s2[pn]? = some (.lst xs)) (h8 : Txts 10 xs) (h9 : xs.length ≤ 40)
    (q : ∀ (t : String), t.length ≤ 10 → Ch n st0 (s2.set pn (.lst (xs ++ [.str t]))) → (s2.set pn (.lst (xs ++ [.str t])))[pn]? = some (.lst (xs ++ [.str t])) → Q (.str t) (s2.set pn (.lst (xs ++ [.str t])))) :
    meIs s2 Me.append (D.loc pn) = true ∧
      W (biV Bi.len false [D.loc pn] s2) fun a st =>
        W (bop Bo.mod false a (D.int 8) st) fun a st =>
          W (Res.of (ixV (D.str "pqrstuvw") a st) st) fun a st =>
            W (biV Bi.len false [D.loc pn] st) fun a_1 st =>
              W (bop Bo.div false a_1 (D.int 8) st) fun a_2 st =>
                W (bop Bo.mul false (D.str "z") a_2 st) fun a_3 st =>
                  W (bop Bo.add false a a_3 st) fun a st =>
                    W (meV Me.append false (D.loc pn) [a] st) fun _ st =>
                      W (Res.of (ixV (D.loc pn) (D.int (-1)) st) st) Q := by
  refine ⟨app_is m2, ?_⟩
  obtain ⟨c, ec⟩ := one_txt (i := (xs.length : Int) % 8) (by omega) (by omega)
  rw [len_loc m2, W_ok, W_mod]
  refine ⟨by omega, ?_⟩
  rw [ix_str ec (by decide), of_some, W_ok]
  rw [len_loc m2, W_ok, W_div]
  have hz : ("z" : String).length = 1 := rfl
  refine ⟨by omega, ?_⟩
  rw [W_muls]
  refine ⟨⟨by omega, by omega, by omega⟩, ?_⟩
  have lz : (String.ofList (List.replicate ((xs.length : Int) / 8).toNat "z".toList).flatten).length ≤ 5 := by
    rw [String.length_ofList, List.length_flatten, List.map_replicate, List.sum_replicate_nat]
    have : ("z" : String).toList.length = 1 := by rw [String.length_toList]; rfl
    rw [this]; omega
  generalize String.ofList (List.replicate ((xs.length : Int) / 8).toNat "z".toList).flatten = zz at lz ⊢
  have l1 : (String.ofList [c]).length = 1 := by simp
  generalize String.ofList [c] = cc at l1 ⊢
  have l2 : (cc ++ zz).length ≤ 6 := by rw [String.length_append]; omega
  rw [W_adds]
  refine ⟨by simp only [LINE]; omega, ?_⟩
  rw [W_app m2]
  have lt := (List.getElem?_eq_some_iff.mp m2).1
  have e2 : (s2.set pn (.lst (xs ++ [.str (cc ++ zz)])))[pn]? = some (.lst (xs ++ [.str (cc ++ zz)])) := by simp [lt]
  refine ⟨by simp only [LINE]; omega, ?_⟩
  rw [ix_loc e2, atI_last, of_some, W_ok]
  exact q _ (by omega) (c02.set' h5 h6) e2
theorem sp_pattern : ∀ (t k : Nat) {st0 s : Store} {n mt pn : Nat} {ts xs : List D}, Ch n st0 s → mt ≠ n → mt ≠ pn → s[mt]? = some (.lst ts) → Tags ts → pn ≠ n → st0.length ≤ pn → s[pn]? = some (.lst xs) → Txts 10 xs → xs.length + 3 ^ t ≤ 40 →
    W (callP P (k + t + 3) i_law_pattern [.loc n, .loc mt, .loc pn, .int (t : Int)] s) (fun r s' => Ch n st0 s' ∧ s.length ≤ s'.length ∧ (∀ i, i ≠ n → i ≠ pn → i < s.length → s'[i]? = s[i]?) ∧
      (∃ xs', s'[pn]? = some (.lst xs') ∧ Txts 10 xs' ∧ xs'.length ≤ xs.length + 3 ^ t) ∧ Pt (4 ^ t) r) := by
  intro t
  induction t with
  | zero =>
    intro k st0 s n mt pn ts xs c0 h1 h2 h3 h4 h5 h6 h7 h8 h9
    rw [callP_succ (show P[i_law_pattern]? = some c_law_pattern from rfl), runB_eq rfl]
    simp [c_law_pattern, startD, evSs, evS, evE, evEs, evOr, evI, evC]
    refine (sp_place c0.box).mono ?_
    rintro _ s1 ⟨c1, pl, rfl⟩
    refine (sp_take c1.box (by omega) (by omega)).mono ?_
    rintro _ s2 ⟨c2, w, rfl, g0, g1⟩
    simp
    have c02 := (c0.trans c1).trans c2
    have m2 : s2[pn]? = some (.lst xs) := c2.at h5 (c1.at h5 h7)
    have l2 := (c1.trans c2).len
    have o2 : ∀ i, ¬ i = n → i < s.length → s2[i]? = s[i]? := fun i hi hl => (c1.trans c2).old i hi hl
    split
    · exact ⟨c02, l2, fun i hi _ hl => o2 i hi hl, ⟨xs, m2, h8, by omega⟩, .nd "skip" pl [], rfl, by simp [wf, iwfs], by simp [psz, iszs]⟩
    · simp only [Nat.pow_zero] at h9
      refine any_step (k := k) (s := s) (pl := pl) _ c02 h5 h6 m2 h8 (by omega) fun t ht ct et => ?_
      refine ⟨ct, by simpa using l2, fun i hi hp hl => ?_, ⟨_, et, h8.app (Txts.one ht), by simp⟩, .nd "any" pl [.leaf (.str t)], rfl, by simp [wf, iwfs, iwf, leafB], by simp [psz, iszs, isz]⟩
      rw [List.getElem?_set_ne (Ne.symm hp)]
      exact o2 i hi hl
  | succ t ih =>
    intro k st0 s n mt pn ts xs c0 h1 h2 h3 h4 h5 h6 h7 h8 h9
    rw [callP_succ (show P[i_law_pattern]? = some c_law_pattern from rfl), runB_eq rfl]
    have et : ¬ ((t : Int) + 1 < 1) := by omega
    have et2 : (t : Int) + 1 - 1 = t := by omega
    have p1 : 3 ^ (t + 1) = 3 * 3 ^ t := by rw [Nat.pow_succ]; omega
    have p2 : 1 ≤ 3 ^ t := Nat.one_le_pow _ _ (by omega)
    have p3 : 4 ^ (t + 1) = 4 * 4 ^ t := by rw [Nat.pow_succ]; omega
    have p4 : 1 ≤ 4 ^ t := Nat.one_le_pow _ _ (by omega)
    simp [c_law_pattern, startD, evSs, evS, evE, evEs, evOr, evI, evC, et, et2]
    refine (sp_place c0.box).mono ?_
    rintro _ s1 ⟨c1, pl, rfl⟩
    refine (sp_take c1.box (by omega) (by omega)).mono ?_
    rintro _ s2 ⟨c2, w, rfl, g0, g1⟩
    simp
    have c02 := (c0.trans c1).trans c2
    have m2 : s2[pn]? = some (.lst xs) := c2.at h5 (c1.at h5 h7)
    have t2 : s2[mt]? = some (.lst ts) := c2.at h1 (c1.at h1 h3)
    have l2 := (c1.trans c2).len
    have o2 : ∀ i, ¬ i = n → i < s.length → s2[i]? = s[i]? := fun i hi hl => (c1.trans c2).old i hi hl
    split
    · exact ⟨c02, l2, fun i hi _ hl => o2 i hi hl, ⟨xs, m2, h8, by omega⟩, .nd "skip" pl [], rfl, by simp [wf, iwfs], by simp [psz, iszs]; omega⟩
    split
    · refine any_step (k := k) (s := s) (pl := pl) _ c02 h5 h6 m2 h8 (by omega) fun t ht ct et => ?_
      refine ⟨ct, by simpa using l2, fun i hi hp hl => ?_, ⟨_, et, h8.app (Txts.one ht), by simp; omega⟩, .nd "any" pl [.leaf (.str t)], rfl, by simp [wf, iwfs, iwf, leafB], by simp [psz, iszs, isz]; omega⟩
      rw [List.getElem?_set_ne (Ne.symm hp)]
      exact o2 i hi hl
    · have tp := h4.pos
      rw [len_loc t2]
      simp
      refine (sp_take c02.box (by omega) (by omega)).mono ?_
      rintro _ s3 ⟨c3, i, rfl, q0, q1⟩
      have t3 := c3.at h1 t2
      obtain ⟨tg, e1, tw, to, ta, fs, rfl, f1, f2⟩ := h4.at q0 q1
      rw [ix_loc t3, e1]
      simp [bindT, setAll, itOf]
      have l3 := c3.len
      refine W_lc (fun r acc s' => Ch n st0 s' ∧ s.length ≤ s'.length ∧ (∀ i, ¬ i = n → ¬ i = pn → i < s.length → s'[i]? = s[i]?) ∧ acc.length + r.length ≤ 3 ∧
        (∃ xs', s'[pn]? = some (.lst xs') ∧ Txts 10 xs' ∧ xs'.length ≤ xs.length + acc.length * 3 ^ t) ∧ ∀ y ∈ acc, Pt (4 ^ t) y) (fun _ _ _ _ => rfl) ?_ ?_ _ _ _
        ⟨c02.trans c3, by omega, fun j hj _ hl => (c3.old j hj (by omega)).trans (o2 j hj hl), by simpa using f2, ⟨xs, c3.at h5 m2, h8, by simp⟩, by simp⟩
      · rintro x r acc s' ⟨d1, d2, d3, d4, ⟨xs', d5, d6, d7⟩, d8⟩
        simp only [List.length_cons] at d4
        simp [wipeD, et2]
        have hml : mt < s.length := (List.getElem?_eq_some_iff.mp h3).1
        have a3 : acc.length * 3 ^ t ≤ 2 * 3 ^ t := Nat.mul_le_mul_right _ (by omega)
        refine (ih k d1 h1 h2 ((d3 mt h1 h2 hml).trans h3) h4 h5 h6 d5 d6 (by omega)).mono ?_
        rintro y s5 ⟨e1, e2, e3, ⟨xs2, e4, e5, e6⟩, e7⟩
        refine ⟨by simp only [LINE]; omega, e1, by omega, fun j hj hp hl => (e3 j hj hp (by omega)).trans (d3 j hj hp hl), by omega, ⟨xs2, e4, e5, by rw [Nat.add_mul]; omega⟩, fun z hz => ?_⟩
        rcases hz with hz | rfl
        · exact d8 z hz
        · exact e7
      · rintro acc s' ⟨d1, d2, d3, d4, ⟨xs', d5, d6, d7⟩, d8⟩
        simp only [List.length_nil, Nat.add_zero] at d4
        have a3 : acc.length * 3 ^ t ≤ 3 * 3 ^ t := Nat.mul_le_mul_right _ d4
        exact ⟨d1, d2, d3, ⟨xs', d5, d6, by omega⟩, (pt_tag (by omega) d8).mono (by omega)⟩
end k21

set_option Elab.async false
set_option linter.all false
set_option maxRecDepth 10000
set_option maxHeartbeats 800000
set_option autoImplicit false
namespace k21
open Rx
def bd : Nat → Nat
  | 0 => 1
  | t + 1 => 20 + bd t
/-- what is asked of the maker of parts -/
def AnyOk (t : Nat) : Prop := ∀ (k : Nat) {s : Store} {n mt : Nat} {ts xs : List D}, Bx n s → mt ≠ n → s[mt]? = some (.lst ts) → Tags ts → Txts 10 xs → xs.length ≤ 100 * (4 - t) →
  W (callP P (k + 2 * t + 8) i_law_any [.loc n, .loc mt, .lst xs, .int (t : Int)] s) (fun r s' => Ch n s s' ∧ Pt (bd t) r)
theorem rows_of {m1 m2 : Nat} : ∀ {l : List D}, (∀ x ∈ l, ∃ p a, x = .tup [p, a] ∧ Pt m1 p ∧ Pt m2 a) → ∃ rs, l = rDs rs ∧ rwfs rs = true ∧ rszs rs ≤ m1 + m2 ∧ rs.length = l.length
  | [], _ => ⟨[], rfl, rfl, by simp [rszs], rfl⟩
  | x :: l, h => by
    obtain ⟨_, _, rfl, ⟨p, rfl, h2, h3⟩, ⟨a, rfl, h4, h5⟩⟩ := h x (by simp)
    obtain ⟨rs, rfl, h6, h7, h8⟩ := rows_of (l := l) fun y hy => h y (by simp [hy])
    refine ⟨.mk p a :: rs, rfl, by simp only [rwfs, rwf, h2, h4, h6]; rfl, ?_, by simp [h8]⟩
    simp only [rszs, rsz] at h7 ⊢; omega
theorem sp_rows {t : Nat} (ih : AnyOk t) (k : Nat) {s : Store} {n mt : Nat} {ts xs : List D} (hb : Bx n s) (h1 : mt ≠ n) (h2 : s[mt]? = some (.lst ts)) (h3 : Tags ts) (h4 : Txts 10 xs) (ht : t ≤ 2) (h5 : xs.length ≤ 100 * (4 - (t + 1))) :
    W (callP P (k + 2 * t + 9) i_law_rows [.loc n, .loc mt, .lst xs, .int ((t : Int) + 1)] s) (fun r s' => Ch n s s' ∧ ∃ l, r = .tup l ∧ l.length ≤ 6 ∧ ∀ x ∈ l, ∃ p a, x = .tup [p, a] ∧ Pt 16 p ∧ Pt (bd t) a) := by
  rw [callP_succ (show P[i_law_rows]? = some c_law_rows from rfl), runB_eq rfl]
  simp [c_law_rows, startD, evSs, evS, evE, evEs, evI, evC, int_bl]
  have c0 : Ch n s (s ++ [.lst []]) := (Chg.refl hb).app
  refine (sp_take (k := k + 2 * t + 6) c0.box (by omega) (by omega)).mono ?_
  rintro _ s1 ⟨c1, i, rfl, g0, g1⟩
  simp [int_bl]
  have hmost : ∃ most : Int, atI [D.int 3, .int 6] (if i = 7 then 1 else 0) = some (.int most) ∧ (most = 3 ∨ most = 6) := by
    split
    · exact ⟨6, by simp, .inr rfl⟩
    · exact ⟨3, by simp, .inl rfl⟩
  obtain ⟨most, em, hm⟩ := hmost
  rw [em]
  simp
  have hn : s.length ≠ n := by have := hb.lt; omega
  have hml : mt < s.length := (List.getElem?_eq_some_iff.mp h2).1
  have et2 : (t : Int) + 1 - 1 = t := by omega
  refine (sp_take (k := k + 2 * t + 6) c1.box (by omega) (by omega)).mono ?_
  rintro _ s2 ⟨c2, j, rfl, g2, g3⟩
  have g4 : -4611686018427387904 ≤ 1 + j ∧ 1 + j < 4611686018427387904 := by omega
  simp [g4]
  have m2 : s2[s.length]? = some (.lst []) := c2.at hn (c1.at hn (by simp))
  refine W_for (fun r ρ s' => Ch n s s' ∧ (∃ o6 o7 o8, ρ = [some (.loc n), some (.loc mt), some (.lst xs), some (.int ((t : Int) + 1)), some (.loc s.length), some (.int most), o6, o7, o8]) ∧
    ∃ l, s'[s.length]? = some (.lst l) ∧ l.length + r.length ≤ 6 ∧ ∀ x ∈ l, ∃ p a, x = .tup [p, a] ∧ Pt 16 p ∧ Pt (bd t) a) (fun _ _ _ _ => rfl) ?_ ?_ _ _ _
    ⟨(c0.trans c1).trans c2, ⟨_, _, _, rfl⟩, [], m2, by simp [rng_len]; omega, by simp⟩
  · rintro x r ρ s' ⟨c3, ⟨o6, o7, o8, rfl⟩, l, d1, d2, d3⟩
    simp only [List.length_cons] at d2
    simp
    have l3 := c3.len
    have hp1 : s'.length ≠ n := by have := c3.box.lt; omega
    have t3 : (s' ++ [.lst []])[mt]? = some (.lst ts) := by
      rw [List.getElem?_append_left (by omega)]; exact (c3.old mt h1 hml).trans h2
    have r3 : (s' ++ [Cell.lst []])[s.length]? = some (.lst l) := by
      rw [List.getElem?_append_left (List.getElem?_eq_some_iff.mp d1).1]; exact d1
    refine (sp_pattern 2 (k + 2 * t + 3) (pn := s'.length) (c3.app (c := .lst [])) h1 (by omega) t3 h3 hp1 (by omega) (xs := []) (by simp) Txts.nil (by simp)).mono ?_
    rintro p s5 ⟨e1, e2, e3, ⟨kn, e4, e5, e6⟩, e7⟩
    have l5 := (List.getElem?_eq_some_iff.mp d1).1
    simp only [List.length_append, List.length_cons, List.length_nil] at e2 e3 e6
    have r5 : s5[s.length]? = some (.lst l) := (e3 _ hn (by omega) (by omega)).trans r3
    have t5 : s5[mt]? = some (.lst ts) := (e3 _ h1 (by omega) (by omega)).trans t3
    simp [app_is r5, et2]
    rw [W_addl rfl (show lstOf s5 (.loc s'.length) = some kn by simp only [lstOf, e4])]
    have e6' : kn.length ≤ 9 := by simpa using e6
    refine ⟨by simp only [LINE]; omega, ?_⟩
    simp
    refine (ih k e1.box h1 t5 h3 (h4.app e5) (by simp; omega)).mono ?_
    rintro a s6 ⟨f1, f2⟩
    have r6 : s6[s.length]? = some (.lst l) := f1.at hn r5
    have l6 := (List.getElem?_eq_some_iff.mp r6).1
    rw [W_app r6]
    refine ⟨by simp only [LINE]; omega, ?_⟩
    simp [l6]
    refine ⟨(e1.trans f1).set' hn (Nat.le_refl _), by omega, fun x hx => ?_⟩
    rcases hx with hx | rfl
    · exact d3 x hx
    · exact ⟨p, a, rfl, e7.mono (by decide), f2⟩
  · rintro ρ s' ⟨c3, ⟨o6, o7, o8, rfl⟩, l, d1, d2, d3⟩
    simp at d2
    simp [tup_loc d1]
    exact ⟨c3, d2, d3⟩
end k21

set_option Elab.async false
set_option linter.all false
set_option maxRecDepth 10000
set_option maxHeartbeats 1600000
set_option autoImplicit false
namespace k21
open Rx
theorem txt_at {n : Nat} {xs : List D} (h : Txts n xs) {i : Int} (h0 : 0 ≤ i) (h1 : i < xs.length) : ∃ t : String, atI xs i = some (.str t) ∧ t.length ≤ n := by
  obtain ⟨x, e1, e2⟩ := atI_of h0 h1
  obtain ⟨t, rfl, ht⟩ := h x e2
  exact ⟨t, e1, ht⟩
theorem any_zero : AnyOk 0 := by
  intro k s n mt ts xs hb h1 h2 h3 h4 h5
  rw [callP_succ (show P[i_law_any]? = some c_law_any from rfl), runB_eq rfl]
  simp [c_law_any, startD, evSs, evS, evE, evEs, evI, evC, evOr, evAnd, int_bl]
  refine (sp_place (k := k + 6) hb).mono ?_
  rintro _ s1 ⟨c1, pl, rfl⟩
  refine (sp_take (k := k + 5) c1.box (by omega) (by omega)).mono ?_
  rintro _ s2 ⟨c2, w, rfl, g0, g1⟩
  have hw : w = 0 ∨ w = 1 ∨ w = 2 := by omega
  have nums : ∀ (st : Store), Ch n s st → W (callP P (k + 7) i_law_take [D.loc n, D.int 150] st) fun a st =>
          W (Res.of (Option.map D.bl (cmpV Co.lt a (D.int 100) st)) st) fun a_1 st =>
            W (boolOf a_1 st) fun a_2 st =>
              if a_2 = true then Ch n s st ∧ Pt 1 (D.tup [D.str "num", D.int pl, a])
              else
                W (bop Bo.mod false a (D.int 2) st) fun a_3 st =>
                  W (Res.of (ixV (D.lst [D.str "m", D.str "n"]) a_3 st) st) fun a_4 st =>
                    W (bop Bo.mod false a (D.int 3) st) fun a st =>
                      W (Res.of (ixV (D.lst [D.str "id", D.str "one", D.str "swap"]) a st) st) fun a st =>
                        Ch n s st ∧ Pt 1 (D.tup [D.str "of", D.int pl, a_4, a]) := by
    intro st c
    refine (sp_take (k := k + 5) c.box (by omega) (by omega)).mono ?_
    rintro _ s3 ⟨c3, v, rfl, v0, v1⟩
    simp
    split
    · exact ⟨c.trans c3, .nd "num" pl [.leaf (.int v)], rfl, by simp [wf, iwfs, iwf, leafB], by simp [psz, iszs, isz]⟩
    · obtain ⟨a, ea, _⟩ := txt_at (n := 4) (xs := [.str "m", .str "n"]) (by intro x hx; simp at hx; rcases hx with rfl | rfl <;> exact ⟨_, rfl, by decide⟩) (i := v % 2) (by omega) (by simp; omega)
      obtain ⟨b, eb, _⟩ := txt_at (n := 4) (xs := [.str "id", .str "one", .str "swap"]) (by intro x hx; simp at hx; rcases hx with rfl | rfl | rfl <;> exact ⟨_, rfl, by decide⟩) (i := v % 3) (by omega) (by simp; omega)
      simp [ea, eb]
      exact ⟨c.trans c3, .nd "of" pl [.leaf (.str a), .leaf (.str b)], rfl, by simp [wf, iwfs, iwf, leafB], by simp [psz, iszs, isz]⟩
  have eqn : ∀ st : Store, cmpV Co.eq (D.lst xs) (D.lst []) st = some xs.isEmpty := fun st => eq_nil
  have c02 := c1.trans c2
  rcases hw with rfl | rfl | rfl
  · simp
    exact nums _ c02
  · simp [eqn]
    split
    · exact nums _ c02
    · rename_i hne
      have hpos : 0 < xs.length := List.length_pos_iff.mpr hne
      refine (sp_take (k := k + 5) c02.box (by omega) (by omega)).mono ?_
      rintro _ s3 ⟨c3, v, rfl, v0, v1⟩
      obtain ⟨a, ea, _⟩ := txt_at h4 v0 v1
      simp [ea]
      exact ⟨c02.trans c3, .nd "name" pl [.leaf (.str a)], rfl, by simp [wf, iwfs, iwf, leafB], by simp [psz, iszs, isz, bd]⟩
  · simp
    have t2 := c02.at h1 h2
    rw [len_loc t2]
    simp
    refine (sp_take (k := k + 5) c02.box (by omega) (by omega)).mono ?_
    rintro _ s3 ⟨c3, v, rfl, v0, v1⟩
    have t3 := c3.at h1 t2
    obtain ⟨tg, et, tw, to, ta, rfl, f1⟩ : ∃ tg, atI ts v = some tg ∧ ∃ (tw to : String) (ta : Int), tg = .tup [.str tw, .str to, .int ta, .tup []] ∧ tw.length ≤ 10 := by
      obtain ⟨y, z, r, rfl, a, b, _, _⟩ := h3
      have : v = 0 ∨ v = 1 := by omega
      rcases this with rfl | rfl
      · obtain ⟨p, o, q, fs, rfl, l1, l2⟩ := a
        cases fs with
        | nil => exact ⟨_, atI_0, p, o, q, rfl, l1⟩
        | cons _ _ => simp at l2
      · obtain ⟨p, o, q, fs, rfl, l1, l2⟩ := b
        cases fs with
        | nil => exact ⟨_, atI_1, p, o, q, rfl, l1⟩
        | cons _ _ => simp at l2
    rw [ix_loc t3, et]
    simp [bindT, setAll, itOf, lcL]
    exact ⟨c02.trans c3, .tag pl tw [], rfl, rfl, by simp [psz, pszs, bd]⟩
end k21

set_option Elab.async false
set_option linter.all false
set_option maxRecDepth 10000
set_option maxHeartbeats 3200000
set_option autoImplicit false
namespace Rx
theorem lst_ne_nil {xs : List D} {st : Store} : cmpV Co.ne (D.lst xs) (D.lst []) st = some (!xs.isEmpty) := by
  cases xs <;> simp [cmpV, flat1, okEq, isNil, cmpb, D.eq, D.eqAll]
theorem in_i2 {i a b : Int} {st : Store} : cmpV Co.isin (D.int i) (D.tup [.int a, .int b]) st = some (a == i || b == i) := by
  rw [inB_tup (by simp [scal])]
  simp [isIn, eq_ii]
end Rx
namespace k21
open Rx
theorem any_succ {t : Nat} (ih : AnyOk t) (ht : t ≤ 2) : AnyOk (t + 1) := by
  intro k s n mt ts xs hb h1 h2 h3 h4 h5
  rw [show k + 2 * (t + 1) + 8 = (k + 2 * t + 9) + 1 by omega]
  rw [callP_succ (show P[i_law_any]? = some c_law_any from rfl), runB_eq rfl]
  have et : ¬ ((t : Int) + 1 < 1) := by omega
  have et2 : (t : Int) + 1 - 1 = t := by omega
  simp [c_law_any, startD, evSs, evS, evE, evEs, evI, evC, evOr, evAnd, int_bl, et]
  refine (sp_place (k := k + 2 * t + 8) hb).mono ?_
  rintro _ s1 ⟨c1, pl, rfl⟩
  refine (sp_take (k := k + 2 * t + 7) c1.box (by omega) (by omega)).mono ?_
  rintro _ s2 ⟨c2, w, rfl, g0, g1⟩
  have hw : w = 0 ∨ w = 1 ∨ w = 2 ∨ w = 3 ∨ w = 4 ∨ w = 5 ∨ w = 6 ∨ w = 7 ∨ w = 8 ∨ w = 9 ∨ w = 10 ∨ w = 11 ∨ w = 12 ∨ w = 13 ∨ w = 14 := by omega
  have c02 := c1.trans c2
  have hb1 : 1 ≤ bd (t + 1) := by simp only [bd]; omega
  have ihk : ∀ {s' : Store} {xs' : List D}, Ch n s s' → Txts 10 xs' → xs'.length ≤ 100 * (4 - t) → W (callP P (k + 2 * t + 9) i_law_any [.loc n, .loc mt, .lst xs', .int (t : Int)] s') (fun r s'' => Ch n s s'' ∧ Pt (bd t) r) := by
    intro s' xs' c hx hl
    have := ih (k + 1) (s := s') c.box h1 (c.at h1 h2) h3 hx hl
    rw [show k + 1 + 2 * t + 8 = k + 2 * t + 9 by omega] at this
    exact this.mono fun r s'' h => ⟨c.trans h.1, h.2⟩
  have tk : ∀ {s' : Store} {m : Int}, Ch n s s' → 0 < m → m < 1073741824 → W (callP P (k + 2 * t + 9) i_law_take [.loc n, .int m] s') (fun r s'' => Ch n s s'' ∧ ∃ i, r = .int i ∧ 0 ≤ i ∧ i < m) := by
    intro s' m c h0 h1
    exact (sp_take (k := k + 2 * t + 7) c.box h0 h1).mono fun r s'' h => ⟨c.trans h.1, h.2⟩
  have eqn : ∀ st : Store, cmpV Co.eq (D.lst xs) (D.lst []) st = some xs.isEmpty := fun st => eq_nil
  have nums : ∀ (st : Store), Ch n s st → W (callP P (k + 2 * t + 9) i_law_take [D.loc n, D.int 150] st) fun a st =>
          W (Res.of (Option.map D.bl (cmpV Co.lt a (D.int 100) st)) st) fun a_1 st =>
            W (boolOf a_1 st) fun a_2 st =>
              if a_2 = true then Ch n s st ∧ Pt (bd (t + 1)) (D.tup [D.str "num", D.int pl, a])
              else
                W (bop Bo.mod false a (D.int 2) st) fun a_3 st =>
                  W (Res.of (ixV (D.lst [D.str "m", D.str "n"]) a_3 st) st) fun a_4 st =>
                    W (bop Bo.mod false a (D.int 3) st) fun a st =>
                      W (Res.of (ixV (D.lst [D.str "id", D.str "one", D.str "swap"]) a st) st) fun a st =>
                        Ch n s st ∧ Pt (bd (t + 1)) (D.tup [D.str "of", D.int pl, a_4, a]) := by
    intro st c
    refine (tk c (by omega) (by omega)).mono ?_
    rintro _ s3 ⟨c3, v, rfl, v0, v1⟩
    simp
    split
    · exact ⟨c3, .nd "num" pl [.leaf (.int v)], rfl, by simp [wf, iwfs, iwf, leafB], by simp [psz, iszs, isz]; omega⟩
    · obtain ⟨a, ea, _⟩ := txt_at (n := 4) (xs := [.str "m", .str "n"]) (by intro x hx; simp at hx; rcases hx with rfl | rfl <;> exact ⟨_, rfl, by decide⟩) (i := v % 2) (by omega) (by simp; omega)
      obtain ⟨b, eb, _⟩ := txt_at (n := 4) (xs := [.str "id", .str "one", .str "swap"]) (by intro x hx; simp at hx; rcases hx with rfl | rfl | rfl <;> exact ⟨_, rfl, by decide⟩) (i := v % 3) (by omega) (by simp; omega)
      simp [ea, eb]
      exact ⟨c3, .nd "of" pl [.leaf (.str a), .leaf (.str b)], rfl, by simp [wf, iwfs, iwf, leafB], by simp [psz, iszs, isz]; omega⟩
  have named : ∀ (st : Store), Ch n s st → 0 < xs.length → W (callP P (k + 2 * t + 9) i_law_take [D.loc n, D.int xs.length] st) fun a st => W (Res.of (ixV (D.lst xs) a st) st) fun a st => Ch n s st ∧ Pt (bd (t + 1)) (D.tup [D.str "name", D.int pl, a]) := by
    intro st c hpos
    refine (tk c (by omega) (by omega)).mono ?_
    rintro _ s3 ⟨c3, v, rfl, v0, v1⟩
    obtain ⟨a, ea, _⟩ := txt_at h4 v0 v1
    simp [ea]
    exact ⟨c3, .nd "name" pl [.leaf (.str a)], rfl, by simp [wf, iwfs, iwf, leafB], by simp [psz, iszs, isz]; omega⟩
  rcases hw with rfl | rfl | rfl | rfl | rfl | rfl | rfl | rfl | rfl | rfl | rfl | rfl | rfl | rfl | rfl
  · simp
    exact nums _ c02
  · simp [eqn]
    split
    · exact nums _ c02
    · rename_i hne
      exact named _ c02 (List.length_pos_iff.mpr hne)
  iterate 2
    · simp
      have t2 := c02.at h1 h2
      have tp := h3.pos
      rw [len_loc t2]
      simp
      refine (tk c02 (by omega) (by omega)).mono ?_
      rintro _ s3 ⟨c3, v, rfl, v0, v1⟩
      have t3 := c3.at h1 h2
      obtain ⟨tg, et', tw, to, ta, fs, rfl, f1, f2⟩ := h3.at v0 v1
      rw [ix_loc t3, et']
      simp [bindT, setAll, itOf]
      refine W_lc (fun r acc s' => Ch n s s' ∧ acc.length + r.length ≤ 3 ∧ ∀ y ∈ acc, Pt (bd t) y) (fun _ _ _ _ => rfl) ?_ ?_ _ _ _ ⟨c3, by simpa using f2, by simp⟩
      · rintro x r acc s' ⟨d1, d2, d3⟩
        simp only [List.length_cons] at d2
        simp [wipeD, et2]
        refine (ihk d1 h4 (by omega)).mono ?_
        rintro y s5 ⟨e1, e2⟩
        refine ⟨by simp only [LINE]; omega, e1, by omega, fun z hz => ?_⟩
        rcases hz with hz | rfl
        · exact d3 z hz
        · exact e2
      · rintro acc s' ⟨d1, d2, d3⟩
        simp only [List.length_nil, Nat.add_zero] at d2
        exact ⟨d1, (pt_tag (by omega) d3).mono (by simp only [bd]; omega)⟩
  iterate 2
    · simp
      refine (tk c02 (by omega) (by omega)).mono ?_
      rintro _ s3 ⟨c3, v, rfl, v0, v1⟩
      obtain ⟨x, ex, lx⟩ := txt_at (n := 4) (xs := [.str "a", .str "b", .str "let", .str "yes"]) (by intro x hx; simp at hx; rcases hx with rfl | rfl | rfl | rfl <;> exact ⟨_, rfl, by decide⟩) (i := v) v0 (by simp; omega)
      simp [ex, et2]
      refine ⟨by simp only [LINE]; omega, ?_⟩
      refine (ihk c3 (h4.app (Txts.one (t := x) (by omega))) (by simp; omega)).mono ?_
      rintro y s5 ⟨e1, p, rfl, e2, e3⟩
      exact ⟨e1, .nd "fn" pl [.leaf (.str x), .kid p], rfl, by simp [wf, iwfs, iwf, leafB, e2], by simp [psz, iszs, isz, bd]; omega⟩
  · simp
    refine (tk c02 (by omega) (by omega)).mono ?_
    rintro _ s3 ⟨c3, v, rfl, v0, v1⟩
    obtain ⟨x, ex, lx⟩ := txt_at (n := 4) (xs := [.str "a", .str "b", .str "let", .str "yes"]) (by intro x hx; simp at hx; rcases hx with rfl | rfl | rfl | rfl <;> exact ⟨_, rfl, by decide⟩) (i := v) v0 (by simp; omega)
    have lf : ("f" : String).length = 1 := rfl
    have l2 : (x ++ "f").length ≤ 5 := by rw [String.length_append]; omega
    have l3 : x.length + ("f" : String).length ≤ LINE := by simp only [LINE]; omega
    simp [ex, et2, l3]
    refine ⟨by simp only [LINE]; omega, ?_⟩
    refine (ihk c3 (h4.app (xs := xs) (ys := [.str x, .str (x ++ "f")]) (fun z hz => by
      simp at hz
      rcases hz with rfl | rfl
      · exact ⟨_, rfl, by omega⟩
      · exact ⟨_, rfl, by omega⟩)) (by simp; omega)).mono ?_
    rintro y s5 ⟨e1, p, rfl, e2, e3⟩
    exact ⟨e1, .nd "loop" pl [.leaf (.str (x ++ "f")), .leaf (.str x), .kid p], rfl, by simp [wf, iwfs, iwf, leafB, e2], by simp [psz, iszs, isz, bd]; omega⟩
  iterate 2
    · simp
      refine (tk c02 (by omega) (by omega)).mono ?_
      rintro _ s3 ⟨c3, v, rfl, v0, v1⟩
      obtain ⟨x, ex, lx⟩ := txt_at (n := 4) (xs := [.str "a", .str "b", .str "let", .str "yes"]) (by intro x hx; simp at hx; rcases hx with rfl | rfl | rfl | rfl <;> exact ⟨_, rfl, by decide⟩) (i := v) v0 (by simp; omega)
      simp [ex, et2]
      refine (ihk c3 h4 (by omega)).mono ?_
      rintro _ s4 ⟨c4, p, rfl, p1, p2⟩
      simp [in_i2, int_bl, W_mull]
      refine ⟨by simp only [LINE]; omega, ?_⟩
      refine (ihk c4 h4 (by omega)).mono ?_
      rintro _ s5 ⟨c5, q, rfl, q1, q2⟩
      exact ⟨c5, .nd "call" pl [.kid p, .kid q], rfl, by simp [wf, iwfs, iwf, p1, q1], by simp [psz, iszs, isz, bd]; omega⟩
  iterate 2
    · simp
      refine (tk c02 (by omega) (by omega)).mono ?_
      rintro _ s3 ⟨c3, v, rfl, v0, v1⟩
      obtain ⟨x, ex, lx⟩ := txt_at (n := 4) (xs := [.str "a", .str "b", .str "let", .str "yes"]) (by intro x hx; simp at hx; rcases hx with rfl | rfl | rfl | rfl <;> exact ⟨_, rfl, by decide⟩) (i := v) v0 (by simp; omega)
      simp [ex, et2]
      refine (ihk c3 h4 (by omega)).mono ?_
      rintro _ s4 ⟨c4, p, rfl, p1, p2⟩
      simp [in_i2, int_bl, W_mull]
      refine ⟨by simp only [LINE]; omega, ?_⟩
      refine (ihk c4 (h4.app (Txts.one (t := x) (by omega))) (by simp; omega)).mono ?_
      rintro _ s5 ⟨c5, q, rfl, q1, q2⟩
      exact ⟨c5, .nd "let" pl [.leaf (.str x), .kid p, .kid q], rfl, by simp [wf, iwfs, iwf, leafB, p1, q1], by simp [psz, iszs, isz, bd]; omega⟩
  · simp
    refine (tk c02 (by omega) (by omega)).mono ?_
    rintro _ s3 ⟨c3, v, rfl, v0, v1⟩
    obtain ⟨x, ex, lx⟩ := txt_at (n := 4) (xs := [.str "a", .str "b", .str "let", .str "yes"]) (by intro x hx; simp at hx; rcases hx with rfl | rfl | rfl | rfl <;> exact ⟨_, rfl, by decide⟩) (i := v) v0 (by simp; omega)
    simp [ex, et2]
    refine (ihk c3 h4 (by omega)).mono ?_
    rintro _ s4 ⟨c4, p, rfl, p1, p2⟩
    simp [in_i2, int_bl, W_mull]
    refine ⟨by simp only [LINE]; omega, ?_⟩
    refine (ihk c4 h4 (by omega)).mono ?_
    rintro _ s5 ⟨c5, q, rfl, q1, q2⟩
    refine (tk c5 (by omega) (by omega)).mono ?_
    rintro _ s6 ⟨c6, u, rfl, u0, u1⟩
    obtain ⟨o, eo, lo⟩ := txt_at (n := 4) (xs := [.str "add", .str "sub", .str "mul", .str "less", .str "same"]) (by intro x hx; simp at hx; rcases hx with rfl | rfl | rfl | rfl | rfl <;> exact ⟨_, rfl, by decide⟩) (i := u) u0 (by simp; omega)
    simp [eo]
    exact ⟨c6, .nd "math" pl [.leaf (.str o), .kid p, .kid q], rfl, by simp [wf, iwfs, iwf, leafB, p1, q1], by simp [psz, iszs, isz, bd]; omega⟩
  · simp
    refine (tk c02 (by omega) (by omega)).mono ?_
    rintro _ s3 ⟨c3, v, rfl, v0, v1⟩
    obtain ⟨x, ex, lx⟩ := txt_at (n := 4) (xs := [.str "a", .str "b", .str "let", .str "yes"]) (by intro x hx; simp at hx; rcases hx with rfl | rfl | rfl | rfl <;> exact ⟨_, rfl, by decide⟩) (i := v) v0 (by simp; omega)
    simp [ex, et2]
    refine (ihk c3 h4 (by omega)).mono ?_
    rintro _ s4 ⟨c4, p, rfl, p1, p2⟩
    refine (sp_rows ih k c4.box h1 (c4.at h1 h2) h3 h4 ht h5).mono ?_
    rintro _ s5 ⟨c5, l, rfl, l1, l2⟩
    obtain ⟨rs, rfl, r1, r2, r3⟩ := rows_of l2
    exact ⟨c4.trans c5, .choose pl p rs, rfl, by simp [wf, p1, r1, r3]; omega, by simp only [psz, bd]; omega⟩
  · simp
    refine (tk c02 (by omega) (by omega)).mono ?_
    rintro _ s3 ⟨c3, v, rfl, v0, v1⟩
    obtain ⟨x, ex, lx⟩ := txt_at (n := 4) (xs := [.str "a", .str "b", .str "let", .str "yes"]) (by intro x hx; simp at hx; rcases hx with rfl | rfl | rfl | rfl <;> exact ⟨_, rfl, by decide⟩) (i := v) v0 (by simp; omega)
    simp [ex, et2]
    refine (tk c3 (by omega) (by omega)).mono ?_
    rintro _ s4 ⟨c4, u, rfl, u0, u1⟩
    have hu : u = 0 ∨ u = 1 ∨ u = 2 := by omega
    have go : ∀ (h : String) (st : Store), Ch n s st → (h = "ref" ∨ h = "get" ∨ h = "held") → W (callP P (k + 2 * t + 9) i_law_any [D.loc n, D.loc mt, D.lst xs, D.int ↑t] st) fun a_1 st =>
        W (callP P (k + 2 * t + 9) i_law_take [D.loc n, D.int 3] st) fun a_2 st =>
          W
            (Res.of
              (ixV
                (D.lst
                  [D.tup [D.str "num"], D.tup [D.str "made", D.str "truth", D.tup []],
                    D.tup [D.str "fn", D.tup [D.str "num"], D.tup [D.str "ref", D.tup [D.str "num"]]]])
                a_2 st)
              st)
            fun a_3 st =>
            W (Res.of (Option.map D.bl (cmpV Co.eq (D.str h) (D.str "held") st)) st) fun a_4 st =>
              W (biV Bi.int false [a_4] st) fun a_5 st =>
                W (bop Bo.mul false (D.tup [a_3]) a_5 st) fun a_6 st =>
                  W (bop Bo.add false (D.tup [D.str h, D.int pl, a_1]) a_6 st) fun r s' => Ch n s s' ∧ Pt (bd (t + 1)) r := by
      intro h st c hh
      refine (ihk c h4 (by omega)).mono ?_
      rintro _ s5 ⟨c5, p, rfl, p1, p2⟩
      refine (tk c5 (by omega) (by omega)).mono ?_
      rintro _ s6 ⟨c6, z, rfl, z0, z1⟩
      refine W_ixv z0 (by simp; omega) fun kd _ => ?_
      rcases hh with rfl | rfl | rfl
      · simp [int_bl]
        exact ⟨c6, .nd "ref" pl [.kid p], rfl, by simp [wf, iwfs, iwf, p1], by simp [psz, iszs, isz, bd]; omega⟩
      · simp [int_bl]
        exact ⟨c6, .nd "get" pl [.kid p], rfl, by simp [wf, iwfs, iwf, p1], by simp [psz, iszs, isz, bd]; omega⟩
      · simp [int_bl]
        exact ⟨c6, .held pl p kd, rfl, by simp [wf, p1], by simp [psz, bd]; omega⟩
    rcases hu with rfl | rfl | rfl
    · simp
      exact go _ _ c4 (.inl rfl)
    · simp
      exact go _ _ c4 (.inr (.inl rfl))
    · simp
      exact go _ _ c4 (.inr (.inr rfl))
  · simp [lst_ne_nil]
    split
    · refine (tk c02 (by omega) (by omega)).mono ?_
      rintro _ s3 ⟨c3, v, rfl, v0, v1⟩
      obtain ⟨x, ex, lx⟩ := txt_at (n := 4) (xs := [.str "a", .str "b", .str "let", .str "yes"]) (by intro x hx; simp at hx; rcases hx with rfl | rfl | rfl | rfl <;> exact ⟨_, rfl, by decide⟩) (i := v) v0 (by simp; omega)
      simp [ex, et2]
      refine (ihk c3 h4 (by omega)).mono ?_
      rintro _ s4 ⟨c4, p, rfl, p1, p2⟩
      simp [in_i2, int_bl, W_mull]
      refine ⟨by simp only [LINE]; omega, ?_⟩
      refine (ihk c4 h4 (by omega)).mono ?_
      rintro _ s5 ⟨c5, q, rfl, q1, q2⟩
      exact ⟨c5, .nd "put" pl [.kid p, .kid q], rfl, by simp [wf, iwfs, iwf, p1, q1], by simp [psz, iszs, isz, bd]; omega⟩
    · rename_i hne
      exact named _ c02 (List.length_pos_iff.mpr hne)
theorem any_ok : ∀ t, t ≤ 3 → AnyOk t
  | 0, _ => any_zero
  | t + 1, h => any_succ (any_ok t (by omega)) (by omega)
end k21

set_option Elab.async false
set_option linter.all false
set_option maxRecDepth 10000
set_option maxHeartbeats 1600000
set_option autoImplicit false
namespace Rx
theorem txt_at' {n : Nat} {xs : List D} (h : Txts n xs) {i : Int} (h0 : 0 ≤ i) (h1 : i < xs.length) : ∃ t : String, atI xs i = some (.str t) ∧ t.length ≤ n := by
  obtain ⟨x, e1, e2⟩ := atI_of h0 h1
  obtain ⟨t, rfl, h3⟩ := h x e2
  exact ⟨t, e1, h3⟩
end Rx
namespace k21
open Rx
def bb : Nat → Nat
  | 0 => 1
  | t + 1 => 1 + 2 * bb t
theorem bb_pos : ∀ t, 1 ≤ bb t
  | 0 => Nat.le_refl _
  | t + 1 => by simp only [bb]; omega
theorem b_num {k m : Nat} {s st : Store} {n : Nat} {pl : Int} {h : 1 ≤ m} (c : Ch n s st) : W (callP P (k + 2) i_law_take [D.loc n, D.int 9] st) fun a st => Ch n s st ∧ Pt m (D.tup [D.str "num", D.int pl, a]) := by
  refine (sp_take c.box (by omega) (by omega)).mono ?_
  rintro _ s3 ⟨c3, i, rfl, _, _⟩
  exact ⟨c.trans c3, .nd "num" pl [.leaf (.int i)], rfl, by simp [wf, iwfs, iwf, leafB], by simp [psz, iszs, isz]; omega⟩
theorem b_name {k m : Nat} {s st : Store} {n : Nat} {pl : Int} {xs : List D} (h : 1 ≤ m) (c : Ch n s st) (h4 : Txts 10 xs) (hl : xs.length ≤ 20) (hp : xs ≠ []) :
    W (callP P (k + 2) i_law_take [D.loc n, D.int ↑xs.length] st) fun a st => W (Res.of (ixV (D.lst xs) a st) st) fun a st => Ch n s st ∧ Pt m (D.tup [D.str "name", D.int pl, a]) := by
  have := List.length_pos_iff.mpr hp
  refine (sp_take c.box (by omega) (by omega)).mono ?_
  rintro _ s3 ⟨c3, i, rfl, i0, i1⟩
  obtain ⟨t, e, _⟩ := txt_at' h4 i0 i1
  simp [e]
  exact ⟨c.trans c3, .nd "name" pl [.leaf (.str t)], rfl, by simp [wf, iwfs, iwf, leafB], by simp [psz, iszs, isz]; omega⟩
theorem body_ok : ∀ (t k : Nat) {s : Store} {n : Nat} {xs : List D}, Bx n s → Txts 10 xs → xs.length + t ≤ 20 →
  W (callP P (k + t + 3) i_law_body [.loc n, .lst xs, .int (t : Int)] s) (fun r s' => Ch n s s' ∧ Pt (bb t) r) := by
  intro t
  induction t with
  | zero =>
    intro k s n xs hb h4 h5
    rw [callP_succ (show P[i_law_body]? = some c_law_body from rfl), runB_eq rfl]
    simp [c_law_body, startD, evSs, evS, evE, evEs, evI, evC, evOr, evAnd]
    refine (sp_place hb).mono ?_
    rintro _ s1 ⟨c1, pl, rfl⟩
    refine (sp_take c1.box (by omega) (by omega)).mono ?_
    rintro _ s2 ⟨c2, w, rfl, g0, g1⟩
    have c02 := c1.trans c2
    simp [lst_ne_nil]
    split
    · split
      · exact b_num (h := by decide) c02
      · exact b_name (by decide) c02 h4 (by omega) ‹_›
    · exact b_num (h := by decide) c02
  | succ t ih =>
    intro k s n xs hb h4 h5
    rw [show k + (t + 1) + 3 = (k + t + 3) + 1 by omega]
    rw [callP_succ (show P[i_law_body]? = some c_law_body from rfl), runB_eq rfl]
    have et : ¬ ((t : Int) + 1 < 1) := by omega
    have et2 : (t : Int) + 1 - 1 = t := by omega
    have b1 := bb_pos (t + 1)
    have b2 := bb_pos t
    simp [c_law_body, startD, evSs, evS, evE, evEs, evI, evC, evOr, evAnd, et]
    refine (sp_place hb).mono ?_
    rintro _ s1 ⟨c1, pl, rfl⟩
    refine (sp_take (k := k + t + 1) c1.box (by omega) (by omega)).mono ?_
    rintro _ s2 ⟨c2, w, rfl, g0, g1⟩
    have c02 := c1.trans c2
    simp [lst_ne_nil, et]
    have num := b_num (k := k + t + 1) (h := b1) (pl := pl) c02
    have rest : W (callP P (k + t + 3) i_law_body [D.loc n, D.lst xs, D.int ↑t] s2) fun a st =>
          W (callP P (k + t + 3) i_law_body [D.loc n, D.lst xs, D.int ↑t] st) fun a_1 st =>
            if w = 5 then Ch n s st ∧ Pt (bb (t + 1)) (D.tup [D.str "math", D.int pl, D.str "add", a, a_1])
            else Ch n s st ∧ Pt (bb (t + 1)) (D.tup [D.str "call", D.int pl, a, a_1]) := by
      refine (ih k c02.box h4 (by omega)).mono ?_
      rintro _ s3 ⟨c3, p, rfl, p1, p2⟩
      refine (ih k c3.box h4 (by omega)).mono ?_
      rintro _ s4 ⟨c4, q, rfl, q1, q2⟩
      have c := (c02.trans c3).trans c4
      split
      · exact ⟨c, .nd "math" pl [.leaf (.str "add"), .kid p, .kid q], rfl, by simp [wf, iwfs, iwf, leafB, p1, q1], by simp [psz, iszs, isz, bb]; omega⟩
      · exact ⟨c, .nd "call" pl [.kid p, .kid q], rfl, by simp [wf, iwfs, iwf, p1, q1], by simp [psz, iszs, isz, bb]; omega⟩
    have fnc : xs.length + 1 ≤ LINE ∧
          W (callP P (k + t + 3) i_law_body [D.loc n, D.lst (xs ++ [D.str "v"]), D.int ↑t] s2) fun a st =>
            Ch n s st ∧ Pt (bb (t + 1)) (D.tup [D.str "fn", D.int pl, D.str "v", a]) := by
      refine ⟨by simp only [LINE]; omega, ?_⟩
      refine (ih k c02.box (h4.app (Txts.one (t := "v") (by decide))) (by simp; omega)).mono ?_
      rintro _ s3 ⟨c3, p, rfl, p1, p2⟩
      exact ⟨c02.trans c3, .nd "fn" pl [.leaf (.str "v"), .kid p], rfl, by simp [wf, iwfs, iwf, leafB, p1], by simp [psz, iszs, isz, bb]; omega⟩
    split
    · split
      · split
        · exact num
        · split
          · exact fnc
          · exact rest
      · exact b_name (k := k + t + 1) b1 c02 h4 (by omega) ‹_›
    · split
      · exact num
      · split
        · exact fnc
        · exact rest
def cc : Nat → Nat
  | 0 => 7
  | t + 1 => 9 + cc t
theorem chain_ok : ∀ (t k : Nat) {s : Store} {n : Nat} {xs : List D}, Bx n s → Txts 10 xs → xs.length + t ≤ 10 → t ≤ 5 →
  W (callP P (k + t + 6) i_law_chain [.loc n, .lst xs, .int (t : Int)] s) (fun r s' => Ch n s s' ∧ Pt (cc t) r) := by
  intro t
  induction t with
  | zero =>
    intro k s n xs hb h4 h5 _
    rw [callP_succ (show P[i_law_chain]? = some c_law_chain from rfl), runB_eq rfl]
    simp [c_law_chain, startD, evSs, evS, evE, evEs]
    exact body_ok 2 k hb h4 (by omega)
  | succ t ih =>
    intro k s n xs hb h4 h5 h6
    rw [show k + (t + 1) + 6 = (k + t + 6) + 1 by omega]
    rw [callP_succ (show P[i_law_chain]? = some c_law_chain from rfl), runB_eq rfl]
    have et : ¬ ((t : Int) + 1 = 0) := by omega
    have et2 : (t : Int) + 1 - 1 = t := by omega
    simp [c_law_chain, startD, evSs, evS, evE, evEs, et]
    refine (sp_place (k := k + t + 5) hb).mono ?_
    rintro _ s1 ⟨c1, pl, rfl⟩
    obtain ⟨c, ec, _⟩ := atI_of (xs := "abcdefghi".toList) (i := (t : Int) + 1) (by omega) (by simp; omega)
    rw [ix_str ec (by decide)]
    have l2 : ("c".push c).length ≤ 10 := by rw [String.length_push]; decide
    simp
    refine ⟨by decide, ?_⟩
    generalize "c".push c = nm at l2 ⊢
    have c01 : Ch n s s1 := c1
    have bo : ∀ {s' : Store}, Ch n s s' → W (callP P (k + t + 6) i_law_body [D.loc n, D.lst xs, D.int 2] s') (fun r s'' => Ch n s s'' ∧ Pt 7 r) := by
      intro s' c
      have := body_ok 2 (k + t + 1) (s := s') c.box h4 (by omega)
      rw [show k + t + 1 + 2 + 3 = k + t + 6 by omega] at this
      exact this.mono fun r s'' h => ⟨c.trans h.1, h.2⟩
    refine (bo c01).mono ?_
    rintro _ s2 ⟨c2, p, rfl, p1, p2⟩
    refine (sp_take (k := k + t + 4) c2.box (by omega) (by omega)).mono ?_
    rintro _ s3 ⟨c3, i, rfl, i0, i1⟩
    have rest : ∀ (st : Store) (x : Prt), Ch n s st → wf x = true → psz x ≤ 8 → xs.length + 1 ≤ LINE ∧ W (callP P (k + t + 6) i_law_chain [D.loc n, D.lst (xs ++ [D.str nm]), D.int ↑t] st) fun a st => Ch n s st ∧ Pt (k21.cc (t + 1)) (D.tup [D.str "let", D.int pl, D.str nm, pD x, a]) := by
      intro st x cx w1 w2
      refine ⟨by simp only [LINE]; omega, ?_⟩
      refine (ih k cx.box (h4.app (Txts.one l2)) (by simp; omega) (by omega)).mono ?_
      rintro _ s4 ⟨c4, q, rfl, q1, q2⟩
      exact ⟨cx.trans c4, .nd "let" pl [.leaf (.str nm), .kid x, .kid q], rfl, by simp [wf, iwfs, iwf, leafB, w1, q1], by simp [psz, iszs, isz, k21.cc]; omega⟩
    simp [et2]
    split
    · refine (sp_place (k := k + t + 5) (c2.trans c3).box).mono ?_
      rintro _ s4 ⟨c4, pl2, rfl⟩
      exact rest _ (.nd "fn" pl2 [.leaf (.str "w"), .kid p]) ((c2.trans c3).trans c4) (by simp [wf, iwfs, iwf, leafB, p1]) (by simp [psz, iszs, isz]; omega)
    · exact rest _ p (c2.trans c3) p1 (by omega)
end k21

set_option Elab.async false
set_option linter.all false
set_option maxRecDepth 10000
set_option maxHeartbeats 1600000
set_option autoImplicit false
namespace Rx
theorem lst_ext {st st' : Store} {v : D} {xs : List D} (h : lstOf st v = some xs) (e : Ext st st') : lstOf st' v = some xs := by
  cases v <;> first | (cases h; done) | skip
  · exact h
  · simp only [lstOf] at h ⊢
    split at h
    · rename_i q
      rw [e _ _ q]; exact h
    · cases h
theorem it_of {st : Store} {v : D} {xs : List D} (h : lstOf st v = some xs) : ∃ ats, itOf v st = some ⟨xs, ats⟩ ∧ ∀ st', Ext st st' → guard ⟨xs, ats⟩ st' = true := by
  cases v <;> first | (cases h; done) | skip
  · cases h
    exact ⟨[], rfl, fun _ _ => rfl⟩
  · rename_i n
    have hn : st[n]? = some (.lst xs) := by
      simp only [lstOf] at h
      split at h
      · rename_i q; cases h; exact q
      · cases h
    exact ⟨[(n, xs)], by simp only [itOf, wlkL, hn], fun s e => guard_loc (e _ _ hn)⟩
end Rx
namespace k21
open Rx
def ikids : List It → List Prt
  | [] => []
  | .leaf _ :: is => ikids is
  | .kid p :: is => p :: ikids is
def rkids : List Row → List Prt
  | [] => []
  | .mk p a :: rs => p :: a :: rkids rs
def rkids2 : List Row → List Prt
  | [] => []
  | .mk p a :: rs => a :: rkids2 rs
def kids : Prt → List Prt
  | .nd _ _ its => ikids its
  | .tag _ _ ps => ps
  | .held _ a _ => [a]
  | .choose _ a rows => a :: rkids rows
def kids2 : Prt → List Prt
  | .choose _ a rows => a :: rkids2 rows
  | p => kids p
def hd : Prt → String
  | .nd h _ _ => h
  | .tag _ _ _ => "tag"
  | .held _ _ _ => "held"
  | .choose _ _ _ => "choose"
theorem ikids_wf : ∀ {is : List It}, iwfs is = true → (∀ x ∈ ikids is, wf x = true ∧ psz x ≤ iszs is) ∧ (ikids is).length ≤ is.length
  | [], _ => by simp [ikids]
  | .leaf d :: is, h => by
    simp only [iwfs, iwf, Bool.and_eq_true] at h
    have ⟨h1, h2⟩ := ikids_wf h.2
    refine ⟨fun x hx => ⟨(h1 x hx).1, ?_⟩, by simp only [ikids, List.length_cons]; omega⟩
    have := (h1 x hx).2
    simp only [iszs, isz]; omega
  | .kid p :: is, h => by
    simp only [iwfs, iwf, Bool.and_eq_true] at h
    have ⟨h1, h2⟩ := ikids_wf h.2
    refine ⟨fun x hx => ?_, by simp only [ikids, List.length_cons]; omega⟩
    simp only [ikids, List.mem_cons] at hx
    rcases hx with rfl | hx
    · exact ⟨h.1, by simp only [iszs, isz]; omega⟩
    · have := (h1 x hx).2
      exact ⟨(h1 x hx).1, by simp only [iszs, isz]; omega⟩
theorem wfs_mem : ∀ {ps : List Prt}, wfs ps = true → ∀ x ∈ ps, wf x = true ∧ psz x ≤ pszs ps
  | [], _, x, h => by cases h
  | p :: ps, h, x, hx => by
    simp only [wfs, Bool.and_eq_true] at h
    rcases List.mem_cons.mp hx with rfl | hx
    · exact ⟨h.1, by simp only [pszs]; omega⟩
    · have := wfs_mem h.2 x hx
      exact ⟨this.1, by simp only [pszs]; omega⟩
theorem rkids_wf : ∀ {rs : List Row}, rwfs rs = true → (∀ x ∈ rkids rs, wf x = true ∧ psz x ≤ rszs rs) ∧ (rkids rs).length = 2 * rs.length
  | [], _ => by simp [rkids]
  | .mk p a :: rs, h => by
    simp only [rwfs, rwf, Bool.and_eq_true] at h
    have ⟨h1, h2⟩ := rkids_wf h.2
    refine ⟨fun x hx => ?_, by simp only [rkids, List.length_cons]; omega⟩
    simp only [rkids, List.mem_cons] at hx
    rcases hx with rfl | rfl | hx
    · exact ⟨h.1.1, by simp only [rszs, rsz]; omega⟩
    · exact ⟨h.1.2, by simp only [rszs, rsz]; omega⟩
    · have := (h1 x hx).2
      exact ⟨(h1 x hx).1, by simp only [rszs, rsz]; omega⟩
theorem rkids2_sub : ∀ {rs : List Row}, (∀ x ∈ rkids2 rs, x ∈ rkids rs) ∧ (rkids2 rs).length = rs.length
  | [] => by simp [rkids2]
  | .mk p a :: rs => by
    have ⟨h1, h2⟩ := rkids2_sub (rs := rs)
    refine ⟨fun x hx => ?_, by simp only [rkids2, List.length_cons]; omega⟩
    simp only [rkids2, List.mem_cons] at hx
    rcases hx with rfl | hx
    · simp [rkids]
    · simp [rkids, h1 x hx]
theorem kids_wf {p : Prt} (h : wf p = true) : (∀ x ∈ kids p, wf x = true ∧ psz x + 1 ≤ psz p) ∧ (kids p).length ≤ 30 := by
  cases p with
  | nd h' pl its =>
    simp only [wf, Bool.and_eq_true, decide_eq_true_eq] at h
    have ⟨h1, h2⟩ := ikids_wf h.2
    refine ⟨fun x hx => ⟨(h1 x hx).1, ?_⟩, by simp only [kids]; omega⟩
    have := (h1 x hx).2
    simp only [psz]; omega
  | tag pl w ps =>
    simp only [wf, Bool.and_eq_true, decide_eq_true_eq] at h
    refine ⟨fun x hx => ?_, by simp only [kids]; omega⟩
    have := wfs_mem h.2 x hx
    exact ⟨this.1, by simp only [psz]; omega⟩
  | held pl a kd =>
    simp only [wf] at h
    refine ⟨fun x hx => ?_, by simp [kids]⟩
    simp only [kids, List.mem_singleton] at hx
    subst hx
    exact ⟨h, by simp only [psz]; omega⟩
  | choose pl a rows =>
    simp only [wf, Bool.and_eq_true, decide_eq_true_eq] at h
    have ⟨h1, h2⟩ := rkids_wf h.2
    refine ⟨fun x hx => ?_, by simp only [kids, List.length_cons]; omega⟩
    simp only [kids, List.mem_cons] at hx
    rcases hx with rfl | hx
    · exact ⟨h.1.1, by simp only [psz]; omega⟩
    · have := h1 x hx
      exact ⟨this.1, by simp only [psz]; omega⟩
theorem kids2_sub {p : Prt} : (∀ x ∈ kids2 p, x ∈ kids p) ∧ (kids2 p).length ≤ (kids p).length := by
  cases p <;> try exact ⟨fun _ h => h, Nat.le_refl _⟩
  rename_i pl a rows
  have ⟨h1, h2⟩ := rkids2_sub (rs := rows)
  refine ⟨fun x hx => ?_, ?_⟩
  · simp only [kids2, kids, List.mem_cons] at hx ⊢
    rcases hx with rfl | hx
    · exact .inl rfl
    · exact .inr (h1 x hx)
  · simp only [kids2, kids, List.length_cons]
    have : ∀ rs : List Row, (rkids rs).length = 2 * rs.length := fun rs => by
      induction rs with
      | nil => rfl
      | cons r rs ih => cases r; simp only [rkids, List.length_cons, ih]; omega
    rw [this]; omega
/-- leaves are no tuples -/
theorem isi_leaf {d : D} {st : Store} (h : leafB d = true) : isTy st d .tuple = some false := by
  cases d <;> first | (cases h; done) | rfl
theorem pD_tup (p : Prt) : ∃ xs, pD p = .tup xs := by cases p <;> exact ⟨_, rfl⟩
theorem pD_hd (p : Prt) : ∃ xs, pD p = .tup (.str (hd p) :: xs) := by cases p <;> exact ⟨_, rfl⟩
theorem isi_pD {p : Prt} {st : Store} : isTy st (pD p) .tuple = some true := by
  obtain ⟨xs, e⟩ := pD_tup p
  rw [e]; rfl
theorem cut_2 {α : Type} {x y : α} {r : List α} : cut (x :: y :: r) (some 2) none = r := by
  simp [cut, sIx]
def isKid : It → Bool
  | .kid _ => true
  | .leaf _ => false
theorem W_items {st : Store} {Q : List D → Store → Prop} {f : D → Store → Res (Option D)} {its : List It} (h : iwfs its = true) (hl : its.length ≤ 5) (hf : ∀ x s, f x s = (Res.of ((isTy s x .tuple).map D.bl) s).bind fun a s => (boolOf a s).bind fun b s => if b = true then (Res.ok x s).bind fun y s => .ok (some y) s else .ok none s)
    (hq : Q ((ikids its).map pD) st) : W (lcL (fun s => guard ⟨iDs its, []⟩ s) f (iDs its) [] st) Q := by
  refine W_lc (fun r acc s => s = st ∧ ∃ ds ts, its = ds ++ ts ∧ r = iDs ts ∧ acc = (ikids ds).map pD ∧ acc.length ≤ ds.length) (fun _ _ _ _ => rfl) ?_ ?_ _ _ _ ⟨rfl, [], its, rfl, rfl, rfl, by simp⟩
  · rintro x r acc s ⟨rfl, ds, ts, rfl, hr, rfl, ha⟩
    cases ts with
    | nil => cases hr
    | cons i ts =>
      simp only [iDs] at hr
      cases hr
      have hi : iwf i = true := by
        have : ∀ {as : List It}, iwfs (as ++ i :: ts) = true → iwf i = true := fun {as} h => by
          induction as with
          | nil => simp only [List.nil_append, iwfs, Bool.and_eq_true] at h; exact h.1
          | cons a as ih => simp only [List.cons_append, iwfs, Bool.and_eq_true] at h; exact ih h.2
        exact this h
      have app : ∀ (as bs : List It), ikids (as ++ bs) = ikids as ++ ikids bs := fun as bs => by
        induction as with
        | nil => rfl
        | cons a as ih => cases a <;> simp [ikids, ih]
      simp only [List.length_append, List.length_cons] at hl
      rw [hf]
      cases i with
      | leaf d =>
        simp only [iwf] at hi
        simp [iD, isi_leaf hi]
        exact ⟨ds ++ [.leaf d], ts, by simp, rfl, by simp [app, ikids], by simpa using Nat.le_succ_of_le (by simpa using ha)⟩
      | kid p =>
        simp [iD, isi_pD]
        refine ⟨by simp at ha; simp only [LINE]; omega, ds ++ [.kid p], ts, by simp, rfl, by simp [app, ikids], by simpa using ha⟩
  · rintro acc s ⟨rfl, ds, ts, rfl, hr, rfl, ha⟩
    cases ts with
    | nil => rw [List.append_nil] at hq; exact hq
    | cons i ts => cases hr
end k21

set_option Elab.async false
set_option linter.all false
set_option maxRecDepth 10000
set_option maxHeartbeats 1600000
set_option autoImplicit false
namespace k21
open Rx
theorem pair_app {n : Nat} {s : Store} {xs : List D} {a b : D} (h : s[n]? = some (.lst xs)) (hl : xs.length + 2 ≤ LINE) {m : Bool} {Q : D → Store → Prop} (q : Q .non (s.set n (.lst (xs ++ [a, b])))) : W (meV .extend m (.loc n) [.lst [a, b]] s) Q := by
  rw [ext_loc h rfl]
  exact ⟨by simpa using hl, q⟩
theorem sp_inner {k : Nat} {p : Prt} {st : Store} (hw : wf p = true) : W (callP P (k + 1) i_law_inner [pD p] st) (fun v st' => Ext st st' ∧ lstOf st' v = some ((kids p).map pD)) := by
  rw [callP_succ (show P[i_law_inner]? = some c_law_inner from rfl), runB_eq rfl]
  cases p with
  | nd h pl its =>
    simp only [wf, Bool.and_eq_true, Bool.not_eq_true', beq_eq_false_iff_ne, decide_eq_true_eq] at hw
    obtain ⟨⟨⟨⟨⟨h1, h2⟩, h3⟩, h5⟩, h4⟩, h6⟩ := hw
    simp [pD, c_law_inner, startD, evSs, evS, evE, evEs, evI, evC, evO, h1, h2, h3, sliV, cut_2, itOf]
    refine W_items h6 h4 (fun x s => ?_) ?_
    · simp [wipeD]
      cases isTy s x Ty.tuple <;> rfl
    · exact ⟨Ext.refl, rfl⟩
  | tag pl w ps =>
    simp [pD, c_law_inner, startD, evSs, evS, evE, evEs, evI, evC, evO]
    exact ⟨Ext.refl, by simp [lstOf, pDs_map, kids]⟩
  | held pl a kd =>
    simp [pD, c_law_inner, startD, evSs, evS, evE, evEs, evI, evC, evO]
    exact ⟨Ext.refl, rfl⟩
  | choose pl a rows =>
    simp only [wf, Bool.and_eq_true, decide_eq_true_eq] at hw
    simp [pD, c_law_inner, startD, evSs, evS, evE, evEs, evI, evC, evO, itOf]
    rw [rDs_map]
    refine W_forA (fun ds ρ s => (∃ o p, ρ = [some (pD (.choose pl a rows)), some (.loc st.length), o, p]) ∧ Ext st s ∧ s[st.length]? = some (.lst ((a :: rkids ds).map pD)) ∧ (rkids ds).length = 2 * ds.length) rD
      ⟨⟨none, none, by simp [pD, rDs_map]⟩, Ext.app, by simp [rkids], rfl⟩ (fun _ _ _ _ => rfl) ?_ ?_
    · rintro ds ⟨p, q⟩ ts hdt ρ s ⟨⟨o, p', rfl⟩, e1, e2, e3⟩
      have hl : ds.length ≤ 10 := by have := hw.1.2; rw [hdt] at this; simp at this; omega
      have l8 := (List.getElem?_eq_some_iff.mp e2).1
      simp [bindT, setAll, rD, ext_is e2]
      refine pair_app e2 (by simp only [LINE, List.length_map, List.length_cons]; omega) ?_
      have app : ∀ (as : List Row), rkids (as ++ [.mk p q]) = rkids as ++ [p, q] := fun as => by
        induction as with
        | nil => rfl
        | cons a as ih => cases a; simp [rkids, ih]
      refine ⟨e1.set (Nat.le_refl _), by simp [l8, app], by rw [app]; simp; omega⟩
    · rintro ρ s ⟨⟨o, p', rfl⟩, e1, e2, e3⟩
      simp [e1]
      simp only [lstOf, e2, kids, List.map_cons]
/-! how many parts -/
mutual
def cnt : Prt → Nat
  | .nd _ _ its => 1 + icnt its
  | .tag _ _ ps => 1 + cnts ps
  | .held _ a _ => 1 + cnt a
  | .choose _ a rows => 1 + (cnt a + rcnt rows)
def cnts : List Prt → Nat
  | [] => 0
  | p :: ps => cnt p + cnts ps
def icnt : List It → Nat
  | [] => 0
  | .leaf _ :: is => icnt is
  | .kid p :: is => cnt p + icnt is
def rcnt : List Row → Nat
  | [] => 0
  | .mk p a :: rs => cnt p + (cnt a + rcnt rs)
end
theorem cnts_sum : ∀ ps : List Prt, cnts ps = (ps.map cnt).sum
  | [] => rfl
  | p :: ps => by simp [cnts, cnts_sum ps]
theorem icnt_kids : ∀ is : List It, icnt is = cnts (ikids is)
  | [] => rfl
  | .leaf _ :: is => by simp [icnt, ikids, icnt_kids is]
  | .kid p :: is => by simp [icnt, ikids, icnt_kids is, cnts]
theorem rcnt_kids : ∀ is : List Row, rcnt is = cnts (rkids is)
  | [] => rfl
  | .mk p a :: is => by simp [rcnt, rkids, rcnt_kids is, cnts]
theorem rcnt_kids2 : ∀ is : List Row, cnts (rkids2 is) ≤ cnts (rkids is)
  | [] => Nat.le_refl _
  | .mk p a :: is => by have := rcnt_kids2 is; simp only [rkids2, rkids, cnts]; omega
theorem cnt_kids (p : Prt) : cnt p = 1 + cnts (kids p) := by
  cases p with
  | nd h pl its => simp [cnt, kids, icnt_kids]
  | tag pl w ps => simp [cnt, kids]
  | held pl a kd => simp [cnt, kids, cnts]
  | choose pl a rows => simp [cnt, kids, cnts, rcnt_kids]
theorem cnts_kids2 (p : Prt) : cnts (kids2 p) ≤ cnts (kids p) := by
  cases p with
  | choose pl a rows => have := rcnt_kids2 rows; simp only [kids2, kids, cnts]; omega
  | _ => exact Nat.le_refl _
theorem W_mapRD {g : Store → Bool} {f : D → Store → Res (Option D)} {st : Store} {Q : List D → Store → Prop} (R : Store → Prop) (l : List (D × D)) (h0 : R st) (hg : ∀ s, R s → g s = true) (hl : l.length ≤ LINE)
    (h : ∀ a ∈ l, ∀ s, R s → W (f a.1 s) fun o s' => R s' ∧ o = some a.2) (hq : ∀ s, R s → Q (l.map Prod.snd) s) : W (lcL g f (l.map Prod.fst) [] st) Q := W_mapR R Prod.fst Prod.snd h0 hg hl h hq
/-- how many, from what is told of the parts within -/
theorem sp_count1 {k : Nat} {d : D} {st s1 : Store} {v : D} {l : List (D × Nat)} (hi : W (callP P (k + 1) i_law_inner [d] st) (fun v st' => Ext st st' ∧ lstOf st' v = some (l.map Prod.fst))) (hl : l.length ≤ 30)
    (h : ∀ x ∈ l, ∀ s, W (callP P (k + 1) i_law_count [x.1] s) (fun r s' => Ext s s' ∧ r = .int x.2)) : W (callP P (k + 2) i_law_count [d] st) (fun r s' => Ext st s' ∧ r = .int ((1 + (l.map Prod.snd).sum : Nat) : Int)) := by
  rw [callP_succ (show P[i_law_count]? = some c_law_count from rfl), runB_eq rfl]
  simp [c_law_count, startD, evSs, evS, evE, evEs, evI, evC, evO]
  refine hi.mono ?_
  rintro v s2 ⟨e1, e2⟩
  obtain ⟨ats, e3, e4⟩ := it_of e2
  rw [e3]
  simp
  refine W_mapR (fun s => Ext s2 s) Prod.fst (fun x : D × Nat => .int (x.2 : Int)) Ext.refl (fun s e => e4 s e) (by simp only [LINE]; omega) ?_ ?_
  · rintro a ha s es
    simp [wipeD]
    refine (h a ha s).mono ?_
    rintro _ s3 ⟨e5, rfl⟩
    simp
    exact es.trans e5
  · rintro s es
    have e : l.map (fun x : D × Nat => D.int (x.2 : Int)) = Ints (l.map fun x => (x.2 : Int)) := by simp [Ints]
    have z : ∀ ks : List (D × Nat), (ks.map fun x => (x.2 : Int)).sum = ((ks.map Prod.snd).sum : Nat) := by
      intro ks
      induction ks with
      | nil => rfl
      | cons k ks ih => simp only [List.map_cons, List.sum_cons, ih]; omega
    simp only [W_ok, newL_f, e, sum_ints, z, bop_add]
    exact ⟨e1.trans es, by simp⟩
theorem sp_count : ∀ (k : Nat) (p : Prt) (st : Store), wf p = true → psz p ≤ k → W (callP P (k + 2) i_law_count [pD p] st) (fun v st' => Ext st st' ∧ v = .int (cnt p)) := by
  intro k
  induction k with
  | zero => intro p st _ h; cases p <;> simp [psz] at h
  | succ k ih =>
    intro p st hw h
    have ⟨h1, h2⟩ := kids_wf hw
    have e : cnt p = 1 + (((kids p).map fun q => (pD q, cnt q)).map Prod.snd).sum := by rw [cnt_kids, cnts_sum, List.map_map]; rfl
    rw [e]
    refine sp_count1 (v := .non) (s1 := st) (l := (kids p).map fun q => (pD q, cnt q)) ?_ (by simpa using h2) ?_
    · rw [List.map_map]; exact sp_inner hw
    · intro x hx s
      obtain ⟨q, hq, rfl⟩ := List.mem_map.mp hx
      have := h1 q hq
      exact ih q s this.1 (by omega)
end k21

set_option Elab.async false
set_option linter.all false
set_option maxRecDepth 10000
set_option maxHeartbeats 1600000
set_option autoImplicit false
namespace Rx
theorem bls_D : ∀ l : List Bool, blsD (l.map D.bl) = some l
  | [] => rfl
  | i :: l => by simp [blsD, bls_D l]
theorem all_bls {m : Bool} {l : List Bool} {st : Store} : biV .all m [.lst (l.map D.bl)] st = .ok (.bl (l.all id)) st := by
  show Res.of (((lstOf st (.lst (l.map D.bl))).bind blsD).map fun l => D.bl (l.all id)) st = _
  rw [show (lstOf st (.lst (l.map D.bl))).bind blsD = some l from bls_D l]
  rfl
end Rx
namespace k21
open Rx
mutual
def gen : Prt → Bool
  | .nd h _ _ => "num" == h || ("name" == h || ("of" == h || ("fn" == h || ("loop" == h || "cell" == h))))
  | .tag _ _ ps => gens ps
  | .held _ _ _ => false
  | .choose _ _ _ => false
def gens : List Prt → Bool
  | [] => true
  | p :: ps => gen p && gens ps
end
theorem gens_all : ∀ ps : List Prt, gens ps = ps.all gen
  | [] => rfl
  | p :: ps => by simp [gens, gens_all ps]
theorem sp_gen_tag {k : Nat} {st : Store} {pl : Int} {w : String} {l : List (D × Bool)} (hl : l.length ≤ 30) (h : ∀ x ∈ l, ∀ s, W (callP P (k + 1) i_is_general [x.1] s) (fun r s' => s' = s ∧ r = .bl x.2)) :
    W (callP P (k + 2) i_is_general [.tup [.str "tag", .int pl, .str w, .tup (l.map Prod.fst)]] st) (fun r s' => s' = st ∧ r = .bl (l.all Prod.snd)) := by
  rw [callP_succ (show P[i_is_general]? = some c_is_general from rfl), runB_eq rfl]
  simp [c_is_general, startD, evSs, evS, evE, evEs, evI, evC, evO, itOf]
  refine W_mapR (fun s => s = st) Prod.fst (fun x : D × Bool => .bl x.2) rfl (fun s e => rfl) (by simp only [LINE]; omega) ?_ ?_
  · rintro a ha s rfl
    simp [wipeD]
    refine (h a ha s).mono ?_
    rintro _ s3 ⟨rfl, rfl⟩
    simp
  · rintro s rfl
    have : l.map (fun x : D × Bool => D.bl x.2) = (l.map Prod.snd).map D.bl := by simp
    rw [this]
    simp only [newL_f, W_ok, all_bls, List.all_map]
    exact ⟨trivial, by simp⟩
theorem sp_gen : ∀ (k : Nat) (p : Prt) (st : Store), wf p = true → psz p ≤ k → W (callP P (k + 1) i_is_general [pD p] st) (fun v st' => st' = st ∧ v = .bl (gen p)) := by
  intro k
  induction k with
  | zero => intro p st _ h; cases p <;> simp [psz] at h
  | succ k ih =>
    intro p st hw h
    by_cases ht : ∃ pl w ps, p = .tag pl w ps
    · obtain ⟨pl, w, ps, rfl⟩ := ht
      have ⟨h1, h2⟩ := kids_wf hw
      have e : pD (.tag pl w ps) = .tup [.str "tag", .int pl, .str w, .tup ((ps.map fun q => (pD q, gen q)).map Prod.fst)] := by
        simp only [pD, pDs_map, List.map_map]; rfl
      have e2 : gen (.tag pl w ps) = (ps.map fun q => (pD q, gen q)).all Prod.snd := by
        simp only [gen, gens_all, List.all_map]; rfl
      rw [e, e2]
      simp only [kids] at h1 h2
      refine sp_gen_tag (by simpa using h2) fun x hx s => ?_
      obtain ⟨q, hq, rfl⟩ := List.mem_map.mp hx
      have := h1 q hq
      exact ih q s this.1 (by omega)
    · rw [callP_succ (show P[i_is_general]? = some c_is_general from rfl), runB_eq rfl]
      cases p with
      | tag pl w ps => exact absurd ⟨_, _, _, rfl⟩ ht
      | nd h' pl its =>
        simp only [wf, Bool.and_eq_true, Bool.not_eq_true', beq_eq_false_iff_ne, decide_eq_true_eq] at hw
        simp [pD, c_is_general, startD, evSs, evS, evE, evEs, evI, evC, evO, hw.1.1.1.1.2, gen]
      | held pl a kd => simp [pD, c_is_general, startD, evSs, evS, evE, evEs, evI, evC, evO, gen]
      | choose pl a rows => simp [pD, c_is_general, startD, evSs, evS, evE, evEs, evI, evC, evO, gen]
theorem sp_lgen : ∀ (k : Nat) (p : Prt) (st : Store), wf p = true → psz p ≤ k → W (callP P (k + 1) i_law_is_general [pD p] st) (fun v st' => st' = st ∧ v = .bl (gen p)) := by
  intro k
  induction k with
  | zero => intro p st _ h; cases p <;> simp [psz] at h
  | succ k ih =>
    intro p st hw h
    rw [callP_succ (show P[i_law_is_general]? = some c_law_is_general from rfl), runB_eq rfl]
    have ⟨h1, h2⟩ := kids_wf hw
    cases p with
    | tag pl w ps =>
      simp [pD, c_law_is_general, startD, evSs, evS, evE, evEs, evI, evC, evO, itOf, pDs_map]
      simp only [kids] at h1 h2
      refine W_lc (fun r acc s => s = st ∧ ∃ ds ts, ps = ds ++ ts ∧ r = ts.map pD ∧ acc = (ds.filter fun q => !gen q).map pD) (fun _ _ _ _ => rfl) ?_ ?_ _ _ _ ⟨rfl, [], ps, rfl, rfl, rfl⟩
      · rintro x r acc s ⟨rfl, ds, ts, rfl, hr, rfl⟩
        cases ts with
        | nil => cases hr
        | cons q ts =>
          simp only [List.map_cons] at hr
          cases hr
          have := h1 q (by simp)
          have lf := List.length_filter_le (fun q => !gen q) ds
          simp only [List.length_append] at h2
          simp [wipeD]
          refine (ih q s this.1 (by omega)).mono ?_
          rintro _ _ ⟨rfl, rfl⟩
          simp
          cases hg : gen q
          · simp
            exact ⟨by simp only [LINE]; omega, ds ++ [q], ts, by simp, rfl, by simp [hg]⟩
          · simp
            exact ⟨ds ++ [q], ts, by simp, rfl, by simp [hg]⟩
      · rintro acc s ⟨rfl, ds, ts, rfl, hr, rfl⟩
        cases ts with
        | cons i ts => cases hr
        | nil =>
          simp [eq_nil, gen, gens_all]
          rw [Bool.eq_iff_iff]
          simp
    | nd h' pl its =>
      simp only [wf, Bool.and_eq_true, Bool.not_eq_true', beq_eq_false_iff_ne, decide_eq_true_eq] at hw
      have hc : ("cell" == h') = false := by simpa using fun e => hw.1.1.2 e.symm
      simp [pD, c_law_is_general, startD, evSs, evS, evE, evEs, evI, evC, evO, hw.1.1.1.1.2, gen, hc]
    | held pl a kd => simp [pD, c_law_is_general, startD, evSs, evS, evE, evEs, evI, evC, evO, gen]
    | choose pl a rows => simp [pD, c_law_is_general, startD, evSs, evS, evE, evEs, evI, evC, evO, gen]
theorem sp_said {k : Nat} {st : Store} {a b : Bool} : W (callP P (k + 1) i_law_said [.bl a, .bl b] st) (fun v st' => st' = st ∧ v = .bl (a == b)) := by
  rw [callP_succ (show P[i_law_said]? = some c_law_said from rfl), runB_eq rfl]
  simp [c_law_said, startD, evSs, evS, evE, evEs, evAnd, isTy]
end k21

set_option Elab.async false
set_option linter.all false
set_option maxRecDepth 10000
set_option maxHeartbeats 1600000
set_option autoImplicit false
namespace Rx
theorem it_of' {st : Store} {v : D} {xs : List D} (h : lstOf st v = some xs) : ∃ ats, ∀ st', Ext st st' → itOf v st' = some ⟨xs, ats⟩ ∧ guard ⟨xs, ats⟩ st' = true := by
  cases v <;> first | (cases h; done) | skip
  · cases h
    exact ⟨[], fun _ _ => ⟨rfl, rfl⟩⟩
  · rename_i n
    have hn : st[n]? = some (.lst xs) := by
      simp only [lstOf] at h
      split at h
      · rename_i q; cases h; exact q
      · cases h
    exact ⟨[(n, xs)], fun s e => ⟨by simp only [itOf, wlkL, e _ _ hn], guard_loc (e _ _ hn)⟩⟩
theorem W_seq {C : CallF} {s : S} {ss : Ss} {ρ : Slots} {st : Store} {Q : Fl → Store → Prop} : W (evSs C (.cons s ss) ρ st) Q ↔ W (evS C s ρ st) (fun f st => W (match f with | .nx ρ => evSs C ss ρ st | .rt d => Res.ok (.rt d) st) Q) := by
  rw [evSs, W_bind]
  try exact Iff.rfl
theorem evSs_nil {C : CallF} {ρ : Slots} {st : Store} : evSs C .nil ρ st = .ok (.nx ρ) st := by rw [evSs]
end Rx
namespace k21
open Rx
/-- a list of parts of p -/
def Parts (m c : Nat) (xs : List D) : Prop := ∃ l : List Prt, xs = l.map pD ∧ (∀ x ∈ l, wf x = true ∧ psz x ≤ m) ∧ l.length ≤ c
theorem cnts_app (a b : List Prt) : cnts (a ++ b) = cnts a + cnts b := by simp [cnts_sum]
theorem Parts.app {m c c' : Nat} {xs ys : List D} (a : Parts m c xs) (b : Parts m c' ys) : Parts m (c + c') (xs ++ ys) := by
  obtain ⟨l, rfl, h1, h2⟩ := a
  obtain ⟨l', rfl, h3, h4⟩ := b
  refine ⟨l ++ l', by simp, fun x hx => ?_, by simp; omega⟩
  rcases List.mem_append.mp hx with z | z
  · exact h1 x z
  · exact h3 x z
theorem Parts.mono {m c m' c' : Nat} {xs : List D} (a : Parts m c xs) (h : m ≤ m') (h' : c ≤ c') : Parts m' c' xs := by
  obtain ⟨l, rfl, h1, h2⟩ := a
  exact ⟨l, rfl, fun x hx => ⟨(h1 x hx).1, by have := (h1 x hx).2; omega⟩, by omega⟩
theorem Parts.len {m c : Nat} {xs : List D} (a : Parts m c xs) : xs.length ≤ c := by
  obtain ⟨l, rfl, h1, h2⟩ := a
  simpa using h2
theorem sp_parts : ∀ (k : Nat) (p : Prt) (st : Store), wf p = true → psz p ≤ k → cnt p ≤ 58 → W (callP P (k + 1) i_law_parts [pD p] st) (fun v st' => Ext st st' ∧ ∃ xs, lstOf st' v = some xs ∧ Parts (psz p) (cnt p) xs) := by
  intro k
  induction k with
  | zero => intro p st _ h; cases p <;> simp [psz] at h
  | succ k ih =>
    intro p st hw h hc
    rw [callP_succ (show P[i_law_parts]? = some c_law_parts from rfl), runB_eq rfl]
    have ⟨h1, h2⟩ := kids_wf hw
    have ⟨h3, h4⟩ := kids2_sub (p := p)
    have hck := cnt_kids p
    have hck2 := cnts_kids2 p
    obtain ⟨xs, ex⟩ := pD_hd p
    have loop : ∀ (s0 : Store) (v : D) (w3 w4 : Option D), Ext st s0 → lstOf s0 v = some ((kids2 p).map pD) → W (evSs (callP P (k + 1)) (Ss.cons (S.asg (Tg.nm 2) (E.lst true (Es.cons (E.var 0) Es.nil)))
      (Ss.cons (S.for_ (Tg.nm 3) (I.it (E.var 1)) (Ss.cons (S.expr (E.me Me.extend false (E.var 2) (Es.cons (E.call i_law_parts (Es.cons (E.var 3) Es.nil)) Es.nil))) Ss.nil)) (Ss.cons (S.ret (E.var 2)) Ss.nil)))
      [some (pD p), some v, none, w3, w4] s0) (fun r s => W (match r with | .nx _ => Res.ok .non s | .rt d => .ok d s) fun v st' => Ext st st' ∧ ∃ xs, lstOf st' v = some xs ∧ Parts (psz p) (cnt p) xs) := by
      intro s0 v w3 w4 e0 hv
      obtain ⟨ats, i1⟩ := it_of' hv
      have e00 : Ext s0 (s0 ++ [.lst [pD p]]) := Ext.app
      simp [evSs, evS, evE, evEs, evI, (i1 _ e00).1]
      refine W_forA (fun ds ρ s => (∃ w, ρ = [some (pD p), some v, some (.loc s0.length), w, w4]) ∧ Ext s0 s ∧ ∃ l, s[s0.length]? = some (.lst l) ∧ Parts (psz p) (1 + cnts ds) l) pD
        ⟨⟨_, rfl⟩, e00, _, by simp, [p], rfl, by simpa using hw, by simp [cnts]⟩ (fun ds ρ s hi => (i1 _ hi.2.1).2) ?_ ?_
      · rintro ds q ts hdt ρ s ⟨⟨w, rfl⟩, e1, l, e2, e3⟩
        have hq : q ∈ kids2 p := by rw [hdt]; simp
        have hq1 := h1 q (h3 q hq)
        have hcq : cnts ds + cnt q ≤ cnts (kids2 p) := by rw [hdt, cnts_app]; simp only [cnts]; omega
        simp [ext_is e2]
        refine (ih q s hq1.1 (by omega) (by omega)).mono ?_
        rintro v' s2 ⟨e4, l', e5, e6⟩
        rw [ext_loc (e4 _ _ e2) e5]
        have l1 := e3.len
        have l2 := e6.len
        have l8 := (List.getElem?_eq_some_iff.mp (e4 _ _ e2)).1
        refine ⟨by simp only [LINE]; omega, (e1.trans e4).set (Nat.le_refl _), l ++ l', by simp [l8], ?_⟩
        rw [cnts_app]
        exact (e3.app (e6.mono (by omega) (Nat.le_refl _))).mono (Nat.le_refl _) (by simp only [cnts]; omega)
      · rintro ρ s ⟨⟨w, rfl⟩, e1, l, e2, e3⟩
        simp
        exact ⟨e0.trans e1, l, by simp only [lstOf, e2], e3.mono (Nat.le_refl _) (by omega)⟩
    rw [W_bind]
    by_cases hch : ∃ pl a rows, p = .choose pl a rows
    · obtain ⟨pl, a, rows, rfl⟩ := hch
      simp only [wf, Bool.and_eq_true, decide_eq_true_eq] at hw
      simp only [c_law_parts, startD]
      rw [W_seq]
      simp [evS, evE, evEs]
      refine (sp_inner (p := .choose pl a rows) (by simp [wf, hw])).mono ?_
      rintro v s1 ⟨e1, e2⟩
      rw [W_seq]
      simp [evS, evE, evEs, pD]
      rw [W_seq]
      simp [evS, evE, evEs, evI, evC, itOf, bindT, setAll]
      rw [rDs_map]
      refine W_mapR (fun s => s = s1) rD (fun r => match r with | .mk p a => pD a) rfl (fun _ _ => rfl) (by simp only [LINE]; omega) ?_ ?_
      · rintro ⟨p, q⟩ hr s rfl
        simp [wipeD, rD, setAll]
      · rintro s rfl
        have e3 : (pD a :: rows.map fun r => match r with | .mk p a => pD a) = (kids2 (.choose pl a rows)).map pD := by
          simp only [kids2, List.map_cons]
          congr 1
          clear hck hck2 h1 h2 h3 h4 ex loop e2 h hc hw
          induction rows with
          | nil => rfl
          | cons r rows ih => cases r; simp only [List.map_cons, rkids2, ih]
        simp [e3, evSs_nil]
        refine ⟨by simp only [LINE]; omega, ?_⟩
        have := loop s (.lst ((kids2 (.choose pl a rows)).map pD)) none none e1 rfl
        simp only [pD, rDs_map] at this ⊢
        exact this
    · have hne : hd p ≠ "choose" := by
        intro e
        cases p with
        | choose pl a rows => exact hch ⟨_, _, _, rfl⟩
        | nd h' pl its => simp only [hd] at e; subst e; simp [wf] at hw
        | tag pl w ps => simp [hd] at e
        | held pl a kd => simp [hd] at e
      simp only [c_law_parts, startD]
      rw [W_seq]
      simp [evS, evE, evEs]
      refine (sp_inner hw).mono ?_
      rintro v s1 ⟨e1, e2⟩
      rw [W_seq]
      simp [evS, evE, evEs, ex, hne, evSs_nil]
      rw [← ex]
      refine loop s1 v none none e1 ?_
      rw [e2]
      cases p with
      | choose pl a rows => exact absurd ⟨_, _, _, rfl⟩ hch
      | _ => rfl
end k21

set_option Elab.async false
set_option linter.all false
set_option maxRecDepth 10000
set_option maxHeartbeats 1600000
set_option autoImplicit false
namespace Rx
theorem Chg.ext {B : Cell → Prop} {st s : Store} {c : Cell} (h : Chg B st.length (st ++ [c]) s) : Ext st s := fun i d hi => by
  have hl := (List.getElem?_eq_some_iff.mp hi).1
  rw [h.old i (by omega) (by simp; omega), List.getElem?_append_left hl]; exact hi
end Rx
namespace k21
open Rx
theorem fin_ok {k : Nat} {st s : Store} {ds : List D} {p : Prt} (e : Ext st s) (hw : wf p = true) (hs : psz p ≤ 62) : W (callP P (k + 79) i_law_count [pD p] s) fun a_1 st_11 =>
      W (Res.of (Option.map D.bl (cmpV Co.gt a_1 (D.int 58) st_11)) st_11) fun a_2 st_12 =>
        W (boolOf a_2 st_12) fun a_3 st_13 =>
          if a_3 = true then Ext st st_13 ∧ ∃ ds_1 p, (ds = ds_1 ∧ D.tup [D.str "fn", D.int 100, D.str "a", D.tup [D.str "name", D.int 101, D.str "a"]] = pD p) ∧ wf p = true ∧ psz p ≤ 62 ∧ cnt p ≤ 58
          else Ext st st_13 ∧ ∃ ds_1 p_1, (ds = ds_1 ∧ pD p = pD p_1) ∧ wf p_1 = true ∧ psz p_1 ≤ 62 ∧ cnt p_1 ≤ 58 := by
  refine (sp_count (k + 77) p s hw (by omega)).mono ?_
  rintro _ s2 ⟨e2, rfl⟩
  simp
  split
  · exact ⟨e.trans e2, ds, .nd "fn" 100 [.leaf (.str "a"), .kid (.nd "name" 101 [.leaf (.str "a")])], ⟨rfl, rfl⟩, by simp [wf, iwfs, iwf, leafB], by simp [psz, iszs, isz], by simp [cnt, icnt]⟩
  · exact ⟨e.trans e2, ds, p, ⟨rfl, rfl⟩, hw, hs, by omega⟩
theorem sp_drawn {k : Nat} {ns : List Int} {st : Store} : W (callP P (k + 80) i_law_drawn [.ro (ns.map D.int)] st) (fun v st' => Ext st st' ∧ ∃ ds p, v = .tup [.tup ds, pD p] ∧ wf p = true ∧ psz p ≤ 62 ∧ cnt p ≤ 58) := by
  rw [callP_succ (show P[i_law_drawn]? = some c_law_drawn from rfl), runB_eq rfl]
  simp [c_law_drawn, startD, evSs, evS, evE, evEs, evI, evC, evO]
  refine (sp_box (k := k + 77) (by omega)).mono ?_
  rintro _ _ ⟨rfl, c, hc, rfl⟩
  have b1 : Bx st.length (st ++ [c]) := ⟨c, by simp, hc⟩
  refine (sp_sums (k := k + 75) b1).mono ?_
  rintro _ s1 ⟨c1, ds, rfl, d1, d2⟩
  refine (sp_box (k := k + 77) (by omega)).mono ?_
  rintro _ _ ⟨rfl, c', hc', rfl⟩
  refine (sp_cell (k := k + 78) (by omega)).mono ?_
  rintro _ _ ⟨rfl, i, rfl⟩
  obtain ⟨x, y, z, w, rfl⟩ := hc'
  simp [ixN]
  have b2 : Bx s1.length (s1 ++ [Cell.lst [D.int x, D.int y, D.int z, D.int (i % 100)]]) := ⟨.lst [.int x, .int y, .int z, .int (i % 100)], by simp, x, y, z, _, rfl⟩
  have e01 : Ext st s1 := c1.ext
  refine (sp_cell (k := k + 78) (by omega)).mono ?_
  rintro _ _ ⟨rfl, j, rfl⟩
  simp
  split
  · refine (sp_cell (k := k + 78) (by omega)).mono ?_
    rintro _ _ ⟨rfl, j, rfl⟩
    simp
    obtain ⟨m, hm⟩ := Int.eq_ofNat_of_zero_le (a := 1 + j / 3000 % 5) (by omega)
    rw [hm]
    have := chain_ok m (k + 79 - m - 6) (xs := []) b2 Txts.nil (by simp; omega) (by omega)
    rw [show k + 79 - m - 6 + m + 6 = k + 79 by omega] at this
    refine this.mono ?_
    rintro _ s3 ⟨c3, p, rfl, p1, p2⟩
    have : cc m ≤ 62 := by
      have : m = 0 ∨ m = 1 ∨ m = 2 ∨ m = 3 ∨ m = 4 ∨ m = 5 := by omega
      rcases this with rfl | rfl | rfl | rfl | rfl | rfl <;> decide
    exact fin_ok (e01.trans c3.ext) p1 (by omega)
  · refine (sp_tags (k := k + 78) d2 d1).mono ?_
    rintro _ s3 ⟨e3, m, ts, rfl, m1, m2, m3⟩
    have b3 : Bx s1.length s3 := ⟨.lst [.int x, .int y, .int z, .int (i % 100)], e3 _ _ (by simp), x, y, z, _, rfl⟩
    have := any_ok 3 (by omega) (k + 65) b3 (show m ≠ s1.length by simp at m1; omega) m2 m3 Txts.nil (by simp)
    refine this.mono ?_
    rintro _ s4 ⟨c4, p, rfl, p1, p2⟩
    have : bd 3 ≤ 62 := by decide
    have e4 : Ext s1 s4 := fun a b hi => by
      have hl := (List.getElem?_eq_some_iff.mp hi).1
      have z := e3 a b (Ext.app _ _ hi)
      rw [c4.old a (by omega) (List.getElem?_eq_some_iff.mp z).1]; exact z
    exact fin_ok (e01.trans e4) p1 (by omega)
theorem cell_gen {k : Nat} {i j : Int} {st : Store} : W (callP P (k + 1) i_is_general [.tup [.str "cell", .int i, .int j]] st) (fun r s' => s' = st ∧ r = .bl true) := by
  rw [callP_succ (show P[i_is_general]? = some c_is_general from rfl), runB_eq rfl]
  simp [c_is_general, startD, evSs, evS, evE, evEs, evI, evC, evO]
theorem gen_wholes {k : Nat} {q : Prt} {i : Int} {x : D} (h1 : wf q = true) (h2 : psz q ≤ k) (hx : x = .tup [.str "tag", .int 5001, .str "yes", .tup [pD q, .tup [.str "cell", .int 5000, .int i]]] ∨
        x = .tup [.str "tag", .int 5001, .str "no", .tup [.tup [.str "cell", .int 5000, .int i], .tup [.str "tag", .int 5002, .str "yes", .tup [.tup [.str "cell", .int 5003, .int 0], pD q]]]]) (s : Store) :
    W (callP P (k + 3) i_is_general [x] s) (fun r s' => s' = s ∧ r = .bl (gen q)) := by
  rcases hx with rfl | rfl
  · refine (sp_gen_tag (k := k + 1) (l := [(pD q, gen q), (.tup [.str "cell", .int 5000, .int i], true)]) (by simp) ?_).mono ?_
    · intro x hx s
      simp only [List.mem_cons, List.not_mem_nil, or_false] at hx
      rcases hx with rfl | rfl
      · exact sp_gen (k + 1) q s h1 (by omega)
      · exact cell_gen
    · rintro _ _ ⟨rfl, rfl⟩
      simp
  · refine (sp_gen_tag (k := k + 1) (l := [(.tup [.str "cell", .int 5000, .int i], true), (.tup [.str "tag", .int 5002, .str "yes", .tup [.tup [.str "cell", .int 5003, .int 0], pD q]], gen q)]) (by simp) ?_).mono ?_
    · intro x hx s
      simp only [List.mem_cons, List.not_mem_nil, or_false] at hx
      rcases hx with rfl | rfl
      · exact cell_gen
      · refine (sp_gen_tag (k := k) (l := [(.tup [.str "cell", .int 5003, .int 0], true), (pD q, gen q)]) (by simp) ?_).mono ?_
        · intro x hx s
          simp only [List.mem_cons, List.not_mem_nil, or_false] at hx
          rcases hx with rfl | rfl
          · exact cell_gen
          · exact sp_gen k q s h1 h2
        · rintro _ _ ⟨rfl, rfl⟩
          simp
    · rintro _ _ ⟨rfl, rfl⟩
      simp
theorem sp_law {ns : List Int} {st : Store} : W (callP P 200 i_law [.ro (ns.map D.int)] st) (fun v st' => v = .bl true) := by
  rw [callP_succ (show P[i_law]? = some c_law from rfl), runB_eq rfl]
  simp [c_law, startD, evSs, evS, evE, evEs, evI, evC, evO]
  refine (sp_drawn (k := 119)).mono ?_
  rintro _ s1 ⟨e1, ds, p, rfl, p1, p2, p3⟩
  simp [bindT, setAll]
  refine (sp_cell (k := 198) (by omega)).mono ?_
  rintro _ _ ⟨rfl, i, rfl⟩
  simp
  refine (sp_parts 198 p _ p1 (by omega) p3).mono ?_
  rintro v s2 ⟨e2, xs, e3, l, rfl, l1, l2⟩
  obtain ⟨ats, i1⟩ := it_of' e3
  simp [(i1 _ Ext.refl).1]
  refine W_forA (fun _ ρ s => (∃ o2 o5 o6 o7, ρ = [some (.ro (ns.map D.int)), some (.tup [.str "cell", .int 5000, .int (i % 50)]), o2, some (.tup ds), some (pD p), o5, o6, o7]) ∧ Ext s2 s) pD
    ⟨⟨_, _, _, _, rfl⟩, Ext.refl⟩ (fun _ _ _ hi => (i1 _ hi.2).2) ?_ ?_
  · rintro done q ts hdt ρ s ⟨⟨o2, o5, o6, o7, rfl⟩, e4⟩
    have hq := l1 q (by rw [hdt]; simp)
    simp
    refine (sp_lgen 198 q s hq.1 (by omega)).mono ?_
    rintro _ _ ⟨rfl, rfl⟩
    refine (sp_gen 198 q _ hq.1 (by omega)).mono ?_
    rintro _ _ ⟨rfl, rfl⟩
    refine sp_said.mono ?_
    rintro _ _ ⟨rfl, rfl⟩
    simp [itOf, wlkL]
    rename_i s4 _
    refine W_forD (fun _ ρ s => (∃ o6 o7, ρ = [some (.ro (ns.map D.int)), some (.tup [.str "cell", .int 5000, .int (i % 50)]), some (pD q), some (.tup ds), some (pD p), some (.bl (gen q)), o6, o7]) ∧ Ext s2 s)
      ⟨⟨_, _, rfl⟩, e4⟩ (fun _ _ _ _ => rfl) ?_ ?_
    · rintro dn x ts' hd' ρ s ⟨⟨o6, o7, rfl⟩, e5⟩
      have hx : x = .tup [.str "tag", .int 5001, .str "yes", .tup [pD q, .tup [.str "cell", .int 5000, .int (i % 50)]]] ∨
        x = .tup [.str "tag", .int 5001, .str "no", .tup [.tup [.str "cell", .int 5000, .int (i % 50)], .tup [.str "tag", .int 5002, .str "yes", .tup [.tup [.str "cell", .int 5003, .int 0], pD q]]]] := by
        have : x ∈ dn ++ x :: ts' := by simp
        rw [← hd'] at this
        simpa using this
      have hg := gen_wholes (k := 196) (i := i % 50) hq.1 (show psz q ≤ 196 by omega) hx s
      simp [evAnd, evE, evEs]
      refine (sp_count 197 q s hq.1 (by omega)).mono ?_
      rintro _ s6 ⟨e6, rfl⟩
      simp
      split
      · refine (gen_wholes (k := 196) (i := i % 50) hq.1 (show psz q ≤ 196 by omega) hx s6).mono ?_
        rintro _ _ ⟨rfl, rfl⟩
        refine sp_said.mono ?_
        rintro _ _ ⟨rfl, rfl⟩
        simp
        exact e5.trans e6
      · exact e5.trans e6
    · rintro ρ s ⟨⟨o6, o7, rfl⟩, e5⟩
      simp
      exact e5
  · rintro ρ s ⟨⟨o2, o5, o6, o7, rfl⟩, e4⟩
    simp [evAnd, evE, evEs]
    refine (cell_gen (k := 198) (i := 5000) (j := i % 50)).mono ?_
    rintro _ _ ⟨rfl, rfl⟩
    refine sp_said.mono ?_
    rintro _ _ ⟨rfl, rfl⟩
    simp
    refine (sp_gen_tag (k := 197) (l := []) (by simp) (by simp)).mono ?_
    rintro _ _ ⟨rfl, rfl⟩
    refine sp_said.mono ?_
    rintro _ _ ⟨rfl, rfl⟩
    simp
end k21

set_option maxRecDepth 100000
namespace k21
open PySem L2 Rx
def top (i : Nat) : PySem.Stmt := PySem.Challenge.pw_kindworks_k21_general_by_form.main.body.getD i (.Pass ⟨0, 0, 0, 0⟩)
def T : Tab := ⟨["is_general", "_law_cell", "_law_mixed", "_law_box", "_law_take", "_law_place", "_law_words", "_law_field", "_law_sums", "_law_tags", "_law_pattern", "_law_rows", "_law_any", "_law_body", "_law_chain", "_law_inner", "_law_count", "_law_is_general", "_law_drawn", "_law_said", "_law_parts", "law"],
  [],
  ["all", "bool", "int", "isinstance", "len", "list", "max", "range", "sum", "tuple"]⟩
def ds : List Df := [⟨"is_general", top 1, c_is_general, N_is_general⟩, ⟨"_law_cell", top 3, c_law_cell, N_law_cell⟩, ⟨"_law_mixed", top 4, c_law_mixed, N_law_mixed⟩, ⟨"_law_box", top 5, c_law_box, N_law_box⟩, ⟨"_law_take", top 6, c_law_take, N_law_take⟩, ⟨"_law_place", top 7, c_law_place, N_law_place⟩, ⟨"_law_words", top 8, c_law_words, N_law_words⟩, ⟨"_law_field", top 9, c_law_field, N_law_field⟩, ⟨"_law_sums", top 10, c_law_sums, N_law_sums⟩, ⟨"_law_tags", top 11, c_law_tags, N_law_tags⟩, ⟨"_law_pattern", top 12, c_law_pattern, N_law_pattern⟩, ⟨"_law_rows", top 13, c_law_rows, N_law_rows⟩, ⟨"_law_any", top 14, c_law_any, N_law_any⟩, ⟨"_law_body", top 15, c_law_body, N_law_body⟩, ⟨"_law_chain", top 16, c_law_chain, N_law_chain⟩, ⟨"_law_inner", top 17, c_law_inner, N_law_inner⟩, ⟨"_law_count", top 18, c_law_count, N_law_count⟩, ⟨"_law_is_general", top 19, c_law_is_general, N_law_is_general⟩, ⟨"_law_drawn", top 20, c_law_drawn, N_law_drawn⟩, ⟨"_law_said", top 21, c_law_said, N_law_said⟩, ⟨"_law_parts", top 22, c_law_parts, N_law_parts⟩, ⟨"law", top 23, c_law, N_law⟩]
theorem ok_is_general : okDf T ⟨"is_general", top 1, c_is_general, N_is_general⟩ = true := by decide +kernel
theorem b_is_general {K : PySem.W.Frag} {f : Addr} {fd : FuncData} (F : Fun K "is_general" "is_general" (top 1) f fd) : Binds K fd ["part"] [] := F.binds fun _ _ _ _ _ _ us hl => match us, hl with | [_], _ => rfl
theorem ok_law_cell : okDf T ⟨"_law_cell", top 3, c_law_cell, N_law_cell⟩ = true := by decide +kernel
theorem b_law_cell {K : PySem.W.Frag} {f : Addr} {fd : FuncData} (F : Fun K "_law_cell" "_law_cell" (top 3) f fd) : Binds K fd ["script", "k"] [] := F.binds fun _ _ _ _ _ _ us hl => match us, hl with | [_, _], _ => rfl
theorem ok_law_mixed : okDf T ⟨"_law_mixed", top 4, c_law_mixed, N_law_mixed⟩ = true := by decide +kernel
theorem b_law_mixed {K : PySem.W.Frag} {f : Addr} {fd : FuncData} (F : Fun K "_law_mixed" "_law_mixed" (top 4) f fd) : Binds K fd ["cell", "k"] [] := F.binds fun _ _ _ _ _ _ us hl => match us, hl with | [_, _], _ => rfl
theorem ok_law_box : okDf T ⟨"_law_box", top 5, c_law_box, N_law_box⟩ = true := by decide +kernel
theorem b_law_box {K : PySem.W.Frag} {f : Addr} {fd : FuncData} (F : Fun K "_law_box" "_law_box" (top 5) f fd) : Binds K fd ["script", "k"] [] := F.binds fun _ _ _ _ _ _ us hl => match us, hl with | [_, _], _ => rfl
theorem ok_law_take : okDf T ⟨"_law_take", top 6, c_law_take, N_law_take⟩ = true := by decide +kernel
theorem b_law_take {K : PySem.W.Frag} {f : Addr} {fd : FuncData} (F : Fun K "_law_take" "_law_take" (top 6) f fd) : Binds K fd ["box", "many"] [] := F.binds fun _ _ _ _ _ _ us hl => match us, hl with | [_, _], _ => rfl
theorem ok_law_place : okDf T ⟨"_law_place", top 7, c_law_place, N_law_place⟩ = true := by decide +kernel
theorem b_law_place {K : PySem.W.Frag} {f : Addr} {fd : FuncData} (F : Fun K "_law_place" "_law_place" (top 7) f fd) : Binds K fd ["box"] [] := F.binds fun _ _ _ _ _ _ us hl => match us, hl with | [_], _ => rfl
theorem ok_law_words : okDf T ⟨"_law_words", top 8, c_law_words, N_law_words⟩ = true := by decide +kernel
theorem b_law_words {K : PySem.W.Frag} {f : Addr} {fd : FuncData} (F : Fun K "_law_words" "_law_words" (top 8) f fd) : Binds K fd ["box", "many"] [] := F.binds fun _ _ _ _ _ _ us hl => match us, hl with | [_, _], _ => rfl
theorem ok_law_field : okDf T ⟨"_law_field", top 9, c_law_field, N_law_field⟩ = true := by decide +kernel
theorem b_law_field {K : PySem.W.Frag} {f : Addr} {fd : FuncData} (F : Fun K "_law_field" "_law_field" (top 9) f fd) : Binds K fd ["box", "decls", "name", "args", "later"] [] := F.binds fun _ _ _ _ _ _ us hl => match us, hl with | [_, _, _, _, _], _ => rfl
theorem ok_law_sums : okDf T ⟨"_law_sums", top 10, c_law_sums, N_law_sums⟩ = true := by decide +kernel
theorem b_law_sums {K : PySem.W.Frag} {f : Addr} {fd : FuncData} (F : Fun K "_law_sums" "_law_sums" (top 10) f fd) : Binds K fd ["box"] [] := F.binds fun _ _ _ _ _ _ us hl => match us, hl with | [_], _ => rfl
theorem ok_law_tags : okDf T ⟨"_law_tags", top 11, c_law_tags, N_law_tags⟩ = true := by decide +kernel
theorem b_law_tags {K : PySem.W.Frag} {f : Addr} {fd : FuncData} (F : Fun K "_law_tags" "_law_tags" (top 11) f fd) : Binds K fd ["decls"] [] := F.binds fun _ _ _ _ _ _ us hl => match us, hl with | [_], _ => rfl
theorem ok_law_pattern : okDf T ⟨"_law_pattern", top 12, c_law_pattern, N_law_pattern⟩ = true := by decide +kernel
theorem b_law_pattern {K : PySem.W.Frag} {f : Addr} {fd : FuncData} (F : Fun K "_law_pattern" "_law_pattern" (top 12) f fd) : Binds K fd ["box", "tags", "names", "deep"] [] := F.binds fun _ _ _ _ _ _ us hl => match us, hl with | [_, _, _, _], _ => rfl
theorem ok_law_rows : okDf T ⟨"_law_rows", top 13, c_law_rows, N_law_rows⟩ = true := by decide +kernel
theorem b_law_rows {K : PySem.W.Frag} {f : Addr} {fd : FuncData} (F : Fun K "_law_rows" "_law_rows" (top 13) f fd) : Binds K fd ["box", "tags", "names", "deep"] [] := F.binds fun _ _ _ _ _ _ us hl => match us, hl with | [_, _, _, _], _ => rfl
theorem ok_law_any : okDf T ⟨"_law_any", top 14, c_law_any, N_law_any⟩ = true := by decide +kernel
theorem b_law_any {K : PySem.W.Frag} {f : Addr} {fd : FuncData} (F : Fun K "_law_any" "_law_any" (top 14) f fd) : Binds K fd ["box", "tags", "names", "deep"] [] := F.binds fun _ _ _ _ _ _ us hl => match us, hl with | [_, _, _, _], _ => rfl
theorem ok_law_body : okDf T ⟨"_law_body", top 15, c_law_body, N_law_body⟩ = true := by decide +kernel
theorem b_law_body {K : PySem.W.Frag} {f : Addr} {fd : FuncData} (F : Fun K "_law_body" "_law_body" (top 15) f fd) : Binds K fd ["box", "names", "deep"] [] := F.binds fun _ _ _ _ _ _ us hl => match us, hl with | [_, _, _], _ => rfl
theorem ok_law_chain : okDf T ⟨"_law_chain", top 16, c_law_chain, N_law_chain⟩ = true := by decide +kernel
theorem b_law_chain {K : PySem.W.Frag} {f : Addr} {fd : FuncData} (F : Fun K "_law_chain" "_law_chain" (top 16) f fd) : Binds K fd ["box", "names", "many"] [] := F.binds fun _ _ _ _ _ _ us hl => match us, hl with | [_, _, _], _ => rfl
theorem ok_law_inner : okDf T ⟨"_law_inner", top 17, c_law_inner, N_law_inner⟩ = true := by decide +kernel
theorem b_law_inner {K : PySem.W.Frag} {f : Addr} {fd : FuncData} (F : Fun K "_law_inner" "_law_inner" (top 17) f fd) : Binds K fd ["part"] [] := F.binds fun _ _ _ _ _ _ us hl => match us, hl with | [_], _ => rfl
theorem ok_law_count : okDf T ⟨"_law_count", top 18, c_law_count, N_law_count⟩ = true := by decide +kernel
theorem b_law_count {K : PySem.W.Frag} {f : Addr} {fd : FuncData} (F : Fun K "_law_count" "_law_count" (top 18) f fd) : Binds K fd ["part"] [] := F.binds fun _ _ _ _ _ _ us hl => match us, hl with | [_], _ => rfl
theorem ok_law_is_general : okDf T ⟨"_law_is_general", top 19, c_law_is_general, N_law_is_general⟩ = true := by decide +kernel
theorem b_law_is_general {K : PySem.W.Frag} {f : Addr} {fd : FuncData} (F : Fun K "_law_is_general" "_law_is_general" (top 19) f fd) : Binds K fd ["part"] [] := F.binds fun _ _ _ _ _ _ us hl => match us, hl with | [_], _ => rfl
theorem ok_law_drawn : okDf T ⟨"_law_drawn", top 20, c_law_drawn, N_law_drawn⟩ = true := by decide +kernel
theorem b_law_drawn {K : PySem.W.Frag} {f : Addr} {fd : FuncData} (F : Fun K "_law_drawn" "_law_drawn" (top 20) f fd) : Binds K fd ["script"] [] := F.binds fun _ _ _ _ _ _ us hl => match us, hl with | [_], _ => rfl
theorem ok_law_said : okDf T ⟨"_law_said", top 21, c_law_said, N_law_said⟩ = true := by decide +kernel
theorem b_law_said {K : PySem.W.Frag} {f : Addr} {fd : FuncData} (F : Fun K "_law_said" "_law_said" (top 21) f fd) : Binds K fd ["found", "due"] [] := F.binds fun _ _ _ _ _ _ us hl => match us, hl with | [_, _], _ => rfl
theorem ok_law_parts : okDf T ⟨"_law_parts", top 22, c_law_parts, N_law_parts⟩ = true := by decide +kernel
theorem b_law_parts {K : PySem.W.Frag} {f : Addr} {fd : FuncData} (F : Fun K "_law_parts" "_law_parts" (top 22) f fd) : Binds K fd ["part"] [] := F.binds fun _ _ _ _ _ _ us hl => match us, hl with | [_], _ => rfl
theorem ok_law : okDf T ⟨"law", top 23, c_law, N_law⟩ = true := by decide +kernel
theorem b_law {K : PySem.W.Frag} {f : Addr} {fd : FuncData} (F : Fun K "law" "law" (top 23) f fd) : Binds K fd ["script"] [] := F.binds fun _ _ _ _ _ _ us hl => match us, hl with | [_], _ => rfl
set_option maxHeartbeats 4000000 in
theorem env {K : PySem.W.Frag} {h : Heap} {mg : Str → Option Value} (KX : K.In h) (G : h.Ns mainGlobals mg)
    {f0 : Addr} {od0 an0 : Option Addr} {sl0 : Array (Option Value)} {oc0 kV0 dc0 pm0 cd0 ct0 : Value}
    {f1 : Addr} {od1 an1 : Option Addr} {sl1 : Array (Option Value)} {oc1 kV1 dc1 pm1 cd1 ct1 : Value}
    {f2 : Addr} {od2 an2 : Option Addr} {sl2 : Array (Option Value)} {oc2 kV2 dc2 pm2 cd2 ct2 : Value}
    {f3 : Addr} {od3 an3 : Option Addr} {sl3 : Array (Option Value)} {oc3 kV3 dc3 pm3 cd3 ct3 : Value}
    {f4 : Addr} {od4 an4 : Option Addr} {sl4 : Array (Option Value)} {oc4 kV4 dc4 pm4 cd4 ct4 : Value}
    {f5 : Addr} {od5 an5 : Option Addr} {sl5 : Array (Option Value)} {oc5 kV5 dc5 pm5 cd5 ct5 : Value}
    {f6 : Addr} {od6 an6 : Option Addr} {sl6 : Array (Option Value)} {oc6 kV6 dc6 pm6 cd6 ct6 : Value}
    {f7 : Addr} {od7 an7 : Option Addr} {sl7 : Array (Option Value)} {oc7 kV7 dc7 pm7 cd7 ct7 : Value}
    {f8 : Addr} {od8 an8 : Option Addr} {sl8 : Array (Option Value)} {oc8 kV8 dc8 pm8 cd8 ct8 : Value}
    {f9 : Addr} {od9 an9 : Option Addr} {sl9 : Array (Option Value)} {oc9 kV9 dc9 pm9 cd9 ct9 : Value}
    {f10 : Addr} {od10 an10 : Option Addr} {sl10 : Array (Option Value)} {oc10 kV10 dc10 pm10 cd10 ct10 : Value}
    {f11 : Addr} {od11 an11 : Option Addr} {sl11 : Array (Option Value)} {oc11 kV11 dc11 pm11 cd11 ct11 : Value}
    {f12 : Addr} {od12 an12 : Option Addr} {sl12 : Array (Option Value)} {oc12 kV12 dc12 pm12 cd12 ct12 : Value}
    {f13 : Addr} {od13 an13 : Option Addr} {sl13 : Array (Option Value)} {oc13 kV13 dc13 pm13 cd13 ct13 : Value}
    {f14 : Addr} {od14 an14 : Option Addr} {sl14 : Array (Option Value)} {oc14 kV14 dc14 pm14 cd14 ct14 : Value}
    {f15 : Addr} {od15 an15 : Option Addr} {sl15 : Array (Option Value)} {oc15 kV15 dc15 pm15 cd15 ct15 : Value}
    {f16 : Addr} {od16 an16 : Option Addr} {sl16 : Array (Option Value)} {oc16 kV16 dc16 pm16 cd16 ct16 : Value}
    {f17 : Addr} {od17 an17 : Option Addr} {sl17 : Array (Option Value)} {oc17 kV17 dc17 pm17 cd17 ct17 : Value}
    {f18 : Addr} {od18 an18 : Option Addr} {sl18 : Array (Option Value)} {oc18 kV18 dc18 pm18 cd18 ct18 : Value}
    {f19 : Addr} {od19 an19 : Option Addr} {sl19 : Array (Option Value)} {oc19 kV19 dc19 pm19 cd19 ct19 : Value}
    {f20 : Addr} {od20 an20 : Option Addr} {sl20 : Array (Option Value)} {oc20 kV20 dc20 pm20 cd20 ct20 : Value}
    {f21 : Addr} {od21 an21 : Option Addr} {sl21 : Array (Option Value)} {oc21 kV21 dc21 pm21 cd21 ct21 : Value}
    (a0 : PySem.W.nsIn K mainGlobals "is_general" = some (some (.ref f0))) (l0 : K.lookup f0 = some ⟨oc0, od0, .func (PySem.W.fnOf "is_general" "is_general" (defArgs (top 1)) (defBody (top 1)) (defScope (top 1)) .none kV0 dc0 pm0 an0 cd0 ct0), sl0⟩) (c0 : PySem.W.codeIn K cd0 "is_general" = true) (k0 : PySem.W.keepIn K (.ref f0) = true)
    (a1 : PySem.W.nsIn K mainGlobals "_law_cell" = some (some (.ref f1))) (l1 : K.lookup f1 = some ⟨oc1, od1, .func (PySem.W.fnOf "_law_cell" "_law_cell" (defArgs (top 3)) (defBody (top 3)) (defScope (top 3)) .none kV1 dc1 pm1 an1 cd1 ct1), sl1⟩) (c1 : PySem.W.codeIn K cd1 "_law_cell" = true) (k1 : PySem.W.keepIn K (.ref f1) = true)
    (a2 : PySem.W.nsIn K mainGlobals "_law_mixed" = some (some (.ref f2))) (l2 : K.lookup f2 = some ⟨oc2, od2, .func (PySem.W.fnOf "_law_mixed" "_law_mixed" (defArgs (top 4)) (defBody (top 4)) (defScope (top 4)) .none kV2 dc2 pm2 an2 cd2 ct2), sl2⟩) (c2 : PySem.W.codeIn K cd2 "_law_mixed" = true) (k2 : PySem.W.keepIn K (.ref f2) = true)
    (a3 : PySem.W.nsIn K mainGlobals "_law_box" = some (some (.ref f3))) (l3 : K.lookup f3 = some ⟨oc3, od3, .func (PySem.W.fnOf "_law_box" "_law_box" (defArgs (top 5)) (defBody (top 5)) (defScope (top 5)) .none kV3 dc3 pm3 an3 cd3 ct3), sl3⟩) (c3 : PySem.W.codeIn K cd3 "_law_box" = true) (k3 : PySem.W.keepIn K (.ref f3) = true)
    (a4 : PySem.W.nsIn K mainGlobals "_law_take" = some (some (.ref f4))) (l4 : K.lookup f4 = some ⟨oc4, od4, .func (PySem.W.fnOf "_law_take" "_law_take" (defArgs (top 6)) (defBody (top 6)) (defScope (top 6)) .none kV4 dc4 pm4 an4 cd4 ct4), sl4⟩) (c4 : PySem.W.codeIn K cd4 "_law_take" = true) (k4 : PySem.W.keepIn K (.ref f4) = true)
    (a5 : PySem.W.nsIn K mainGlobals "_law_place" = some (some (.ref f5))) (l5 : K.lookup f5 = some ⟨oc5, od5, .func (PySem.W.fnOf "_law_place" "_law_place" (defArgs (top 7)) (defBody (top 7)) (defScope (top 7)) .none kV5 dc5 pm5 an5 cd5 ct5), sl5⟩) (c5 : PySem.W.codeIn K cd5 "_law_place" = true) (k5 : PySem.W.keepIn K (.ref f5) = true)
    (a6 : PySem.W.nsIn K mainGlobals "_law_words" = some (some (.ref f6))) (l6 : K.lookup f6 = some ⟨oc6, od6, .func (PySem.W.fnOf "_law_words" "_law_words" (defArgs (top 8)) (defBody (top 8)) (defScope (top 8)) .none kV6 dc6 pm6 an6 cd6 ct6), sl6⟩) (c6 : PySem.W.codeIn K cd6 "_law_words" = true) (k6 : PySem.W.keepIn K (.ref f6) = true)
    (a7 : PySem.W.nsIn K mainGlobals "_law_field" = some (some (.ref f7))) (l7 : K.lookup f7 = some ⟨oc7, od7, .func (PySem.W.fnOf "_law_field" "_law_field" (defArgs (top 9)) (defBody (top 9)) (defScope (top 9)) .none kV7 dc7 pm7 an7 cd7 ct7), sl7⟩) (c7 : PySem.W.codeIn K cd7 "_law_field" = true) (k7 : PySem.W.keepIn K (.ref f7) = true)
    (a8 : PySem.W.nsIn K mainGlobals "_law_sums" = some (some (.ref f8))) (l8 : K.lookup f8 = some ⟨oc8, od8, .func (PySem.W.fnOf "_law_sums" "_law_sums" (defArgs (top 10)) (defBody (top 10)) (defScope (top 10)) .none kV8 dc8 pm8 an8 cd8 ct8), sl8⟩) (c8 : PySem.W.codeIn K cd8 "_law_sums" = true) (k8 : PySem.W.keepIn K (.ref f8) = true)
    (a9 : PySem.W.nsIn K mainGlobals "_law_tags" = some (some (.ref f9))) (l9 : K.lookup f9 = some ⟨oc9, od9, .func (PySem.W.fnOf "_law_tags" "_law_tags" (defArgs (top 11)) (defBody (top 11)) (defScope (top 11)) .none kV9 dc9 pm9 an9 cd9 ct9), sl9⟩) (c9 : PySem.W.codeIn K cd9 "_law_tags" = true) (k9 : PySem.W.keepIn K (.ref f9) = true)
    (a10 : PySem.W.nsIn K mainGlobals "_law_pattern" = some (some (.ref f10))) (l10 : K.lookup f10 = some ⟨oc10, od10, .func (PySem.W.fnOf "_law_pattern" "_law_pattern" (defArgs (top 12)) (defBody (top 12)) (defScope (top 12)) .none kV10 dc10 pm10 an10 cd10 ct10), sl10⟩) (c10 : PySem.W.codeIn K cd10 "_law_pattern" = true) (k10 : PySem.W.keepIn K (.ref f10) = true)
    (a11 : PySem.W.nsIn K mainGlobals "_law_rows" = some (some (.ref f11))) (l11 : K.lookup f11 = some ⟨oc11, od11, .func (PySem.W.fnOf "_law_rows" "_law_rows" (defArgs (top 13)) (defBody (top 13)) (defScope (top 13)) .none kV11 dc11 pm11 an11 cd11 ct11), sl11⟩) (c11 : PySem.W.codeIn K cd11 "_law_rows" = true) (k11 : PySem.W.keepIn K (.ref f11) = true)
    (a12 : PySem.W.nsIn K mainGlobals "_law_any" = some (some (.ref f12))) (l12 : K.lookup f12 = some ⟨oc12, od12, .func (PySem.W.fnOf "_law_any" "_law_any" (defArgs (top 14)) (defBody (top 14)) (defScope (top 14)) .none kV12 dc12 pm12 an12 cd12 ct12), sl12⟩) (c12 : PySem.W.codeIn K cd12 "_law_any" = true) (k12 : PySem.W.keepIn K (.ref f12) = true)
    (a13 : PySem.W.nsIn K mainGlobals "_law_body" = some (some (.ref f13))) (l13 : K.lookup f13 = some ⟨oc13, od13, .func (PySem.W.fnOf "_law_body" "_law_body" (defArgs (top 15)) (defBody (top 15)) (defScope (top 15)) .none kV13 dc13 pm13 an13 cd13 ct13), sl13⟩) (c13 : PySem.W.codeIn K cd13 "_law_body" = true) (k13 : PySem.W.keepIn K (.ref f13) = true)
    (a14 : PySem.W.nsIn K mainGlobals "_law_chain" = some (some (.ref f14))) (l14 : K.lookup f14 = some ⟨oc14, od14, .func (PySem.W.fnOf "_law_chain" "_law_chain" (defArgs (top 16)) (defBody (top 16)) (defScope (top 16)) .none kV14 dc14 pm14 an14 cd14 ct14), sl14⟩) (c14 : PySem.W.codeIn K cd14 "_law_chain" = true) (k14 : PySem.W.keepIn K (.ref f14) = true)
    (a15 : PySem.W.nsIn K mainGlobals "_law_inner" = some (some (.ref f15))) (l15 : K.lookup f15 = some ⟨oc15, od15, .func (PySem.W.fnOf "_law_inner" "_law_inner" (defArgs (top 17)) (defBody (top 17)) (defScope (top 17)) .none kV15 dc15 pm15 an15 cd15 ct15), sl15⟩) (c15 : PySem.W.codeIn K cd15 "_law_inner" = true) (k15 : PySem.W.keepIn K (.ref f15) = true)
    (a16 : PySem.W.nsIn K mainGlobals "_law_count" = some (some (.ref f16))) (l16 : K.lookup f16 = some ⟨oc16, od16, .func (PySem.W.fnOf "_law_count" "_law_count" (defArgs (top 18)) (defBody (top 18)) (defScope (top 18)) .none kV16 dc16 pm16 an16 cd16 ct16), sl16⟩) (c16 : PySem.W.codeIn K cd16 "_law_count" = true) (k16 : PySem.W.keepIn K (.ref f16) = true)
    (a17 : PySem.W.nsIn K mainGlobals "_law_is_general" = some (some (.ref f17))) (l17 : K.lookup f17 = some ⟨oc17, od17, .func (PySem.W.fnOf "_law_is_general" "_law_is_general" (defArgs (top 19)) (defBody (top 19)) (defScope (top 19)) .none kV17 dc17 pm17 an17 cd17 ct17), sl17⟩) (c17 : PySem.W.codeIn K cd17 "_law_is_general" = true) (k17 : PySem.W.keepIn K (.ref f17) = true)
    (a18 : PySem.W.nsIn K mainGlobals "_law_drawn" = some (some (.ref f18))) (l18 : K.lookup f18 = some ⟨oc18, od18, .func (PySem.W.fnOf "_law_drawn" "_law_drawn" (defArgs (top 20)) (defBody (top 20)) (defScope (top 20)) .none kV18 dc18 pm18 an18 cd18 ct18), sl18⟩) (c18 : PySem.W.codeIn K cd18 "_law_drawn" = true) (k18 : PySem.W.keepIn K (.ref f18) = true)
    (a19 : PySem.W.nsIn K mainGlobals "_law_said" = some (some (.ref f19))) (l19 : K.lookup f19 = some ⟨oc19, od19, .func (PySem.W.fnOf "_law_said" "_law_said" (defArgs (top 21)) (defBody (top 21)) (defScope (top 21)) .none kV19 dc19 pm19 an19 cd19 ct19), sl19⟩) (c19 : PySem.W.codeIn K cd19 "_law_said" = true) (k19 : PySem.W.keepIn K (.ref f19) = true)
    (a20 : PySem.W.nsIn K mainGlobals "_law_parts" = some (some (.ref f20))) (l20 : K.lookup f20 = some ⟨oc20, od20, .func (PySem.W.fnOf "_law_parts" "_law_parts" (defArgs (top 22)) (defBody (top 22)) (defScope (top 22)) .none kV20 dc20 pm20 an20 cd20 ct20), sl20⟩) (c20 : PySem.W.codeIn K cd20 "_law_parts" = true) (k20 : PySem.W.keepIn K (.ref f20) = true)
    (a21 : PySem.W.nsIn K mainGlobals "law" = some (some (.ref f21))) (l21 : K.lookup f21 = some ⟨oc21, od21, .func (PySem.W.fnOf "law" "law" (defArgs (top 23)) (defBody (top 23)) (defScope (top 23)) .none kV21 dc21 pm21 an21 cd21 ct21), sl21⟩) (c21 : PySem.W.codeIn K cd21 "law" = true) (k21 : PySem.W.keepIn K (.ref f21) = true)
    (z0 : PySem.W.nsIn K mainGlobals "all" = some none)
    (z1 : PySem.W.nsIn K mainGlobals "bool" = some none)
    (z2 : PySem.W.nsIn K mainGlobals "int" = some none)
    (z3 : PySem.W.nsIn K mainGlobals "isinstance" = some none)
    (z4 : PySem.W.nsIn K mainGlobals "len" = some none)
    (z5 : PySem.W.nsIn K mainGlobals "list" = some none)
    (z6 : PySem.W.nsIn K mainGlobals "max" = some none)
    (z7 : PySem.W.nsIn K mainGlobals "range" = some none)
    (z8 : PySem.W.nsIn K mainGlobals "sum" = some none)
    (z9 : PySem.W.nsIn K mainGlobals "tuple" = some none)
    : Rx.Env K mg T ds := by
  have F0 := fun_mk (st := top 1) l0 c0 k0
  have F1 := fun_mk (st := top 3) l1 c1 k1
  have F2 := fun_mk (st := top 4) l2 c2 k2
  have F3 := fun_mk (st := top 5) l3 c3 k3
  have F4 := fun_mk (st := top 6) l4 c4 k4
  have F5 := fun_mk (st := top 7) l5 c5 k5
  have F6 := fun_mk (st := top 8) l6 c6 k6
  have F7 := fun_mk (st := top 9) l7 c7 k7
  have F8 := fun_mk (st := top 10) l8 c8 k8
  have F9 := fun_mk (st := top 11) l9 c9 k9
  have F10 := fun_mk (st := top 12) l10 c10 k10
  have F11 := fun_mk (st := top 13) l11 c11 k11
  have F12 := fun_mk (st := top 14) l12 c12 k12
  have F13 := fun_mk (st := top 15) l13 c13 k13
  have F14 := fun_mk (st := top 16) l14 c14 k14
  have F15 := fun_mk (st := top 17) l15 c15 k15
  have F16 := fun_mk (st := top 18) l16 c16 k16
  have F17 := fun_mk (st := top 19) l17 c17 k17
  have F18 := fun_mk (st := top 20) l18 c18 k18
  have F19 := fun_mk (st := top 21) l19 c19 k19
  have F20 := fun_mk (st := top 22) l20 c20 k20
  have F21 := fun_mk (st := top 23) l21 c21 k21
  refine ⟨rfl, ?_, bs_of ?_, gs_of ?_⟩
  · exact all_cons ⟨ok_is_general, _, _, F0, PySem.W.mg_of KX G a0, b_is_general F0⟩ (all_cons ⟨ok_law_cell, _, _, F1, PySem.W.mg_of KX G a1, b_law_cell F1⟩ (all_cons ⟨ok_law_mixed, _, _, F2, PySem.W.mg_of KX G a2, b_law_mixed F2⟩ (all_cons ⟨ok_law_box, _, _, F3, PySem.W.mg_of KX G a3, b_law_box F3⟩ (all_cons ⟨ok_law_take, _, _, F4, PySem.W.mg_of KX G a4, b_law_take F4⟩ (all_cons ⟨ok_law_place, _, _, F5, PySem.W.mg_of KX G a5, b_law_place F5⟩ (all_cons ⟨ok_law_words, _, _, F6, PySem.W.mg_of KX G a6, b_law_words F6⟩ (all_cons ⟨ok_law_field, _, _, F7, PySem.W.mg_of KX G a7, b_law_field F7⟩ (all_cons ⟨ok_law_sums, _, _, F8, PySem.W.mg_of KX G a8, b_law_sums F8⟩ (all_cons ⟨ok_law_tags, _, _, F9, PySem.W.mg_of KX G a9, b_law_tags F9⟩ (all_cons ⟨ok_law_pattern, _, _, F10, PySem.W.mg_of KX G a10, b_law_pattern F10⟩ (all_cons ⟨ok_law_rows, _, _, F11, PySem.W.mg_of KX G a11, b_law_rows F11⟩ (all_cons ⟨ok_law_any, _, _, F12, PySem.W.mg_of KX G a12, b_law_any F12⟩ (all_cons ⟨ok_law_body, _, _, F13, PySem.W.mg_of KX G a13, b_law_body F13⟩ (all_cons ⟨ok_law_chain, _, _, F14, PySem.W.mg_of KX G a14, b_law_chain F14⟩ (all_cons ⟨ok_law_inner, _, _, F15, PySem.W.mg_of KX G a15, b_law_inner F15⟩ (all_cons ⟨ok_law_count, _, _, F16, PySem.W.mg_of KX G a16, b_law_count F16⟩ (all_cons ⟨ok_law_is_general, _, _, F17, PySem.W.mg_of KX G a17, b_law_is_general F17⟩ (all_cons ⟨ok_law_drawn, _, _, F18, PySem.W.mg_of KX G a18, b_law_drawn F18⟩ (all_cons ⟨ok_law_said, _, _, F19, PySem.W.mg_of KX G a19, b_law_said F19⟩ (all_cons ⟨ok_law_parts, _, _, F20, PySem.W.mg_of KX G a20, b_law_parts F20⟩ (all_cons ⟨ok_law, _, _, F21, PySem.W.mg_of KX G a21, b_law F21⟩ (all_nil))))))))))))))))))))))
  · exact all_cons (PySem.W.mg_none_of KX G z0) (all_cons (PySem.W.mg_none_of KX G z1) (all_cons (PySem.W.mg_none_of KX G z2) (all_cons (PySem.W.mg_none_of KX G z3) (all_cons (PySem.W.mg_none_of KX G z4) (all_cons (PySem.W.mg_none_of KX G z5) (all_cons (PySem.W.mg_none_of KX G z6) (all_cons (PySem.W.mg_none_of KX G z7) (all_cons (PySem.W.mg_none_of KX G z8) (all_cons (PySem.W.mg_none_of KX G z9) (all_nil))))))))))
  · exact all_nil
end k21

theorem k21.law_ok : ∀ ns : List Int, ns.length ≤ 63 → ∃ st', Rx.callP (k21.ds.map (·.fn)) 200 21 [.ro (ns.map Rx.D.int)] [] = .ok (.bl true) st' := fun ns _ => by
  obtain ⟨r, st', e, h⟩ := (k21.sp_law (ns := ns) (st := [])).get
  exact ⟨st', by rw [← h]; exact e⟩
open PySem PySem.W PyProof.Rows
set_option maxRecDepth 100000 in
set_option maxHeartbeats 0 in
theorem PySem.Challenge.cw_kindworks_k21_general_by_form_holds : PySem.Challenge.rw_kindworks_k21_general_by_form.Holds := by
  w_on; o_law; k_head; (case hw => w_witness2)
  k_fill
  refine Rx.walk (l := PySem.Challenge.rw_kindworks_k21_general_by_form) (T := k21.T) (ds := k21.ds) (i := 21) (k := 200) (x := "script") rfl rfl ⟨rfl, by decide, by decide⟩ (fun w h Y => PySem.W.kIn_of Y) ⟨"law", k21.top 23, k21.c_law, k21.N_law⟩ rfl rfl rfl ?E (fun w mg f fd hv s u => ?B) k21.law_ok
  case B =>
    obtain ⟨oc, od, kV, doc, pm, an, cdv, ct, osl, rfl, _⟩ := hv.fn.ex
    exact .of_eq rfl
  case E =>
    intro w mg h KX G
    refine' k21.env KX G ?a0 ?l0 ?c0 ?k0 ?a1 ?l1 ?c1 ?k1 ?a2 ?l2 ?c2 ?k2 ?a3 ?l3 ?c3 ?k3 ?a4 ?l4 ?c4 ?k4 ?a5 ?l5 ?c5 ?k5 ?a6 ?l6 ?c6 ?k6 ?a7 ?l7 ?c7 ?k7 ?a8 ?l8 ?c8 ?k8 ?a9 ?l9 ?c9 ?k9 ?a10 ?l10 ?c10 ?k10 ?a11 ?l11 ?c11 ?k11 ?a12 ?l12 ?c12 ?k12 ?a13 ?l13 ?c13 ?k13 ?a14 ?l14 ?c14 ?k14 ?a15 ?l15 ?c15 ?k15 ?a16 ?l16 ?c16 ?k16 ?a17 ?l17 ?c17 ?k17 ?a18 ?l18 ?c18 ?k18 ?a19 ?l19 ?c19 ?k19 ?a20 ?l20 ?c20 ?k20 ?a21 ?l21 ?c21 ?k21 ?z0 ?z1 ?z2 ?z3 ?z4 ?z5 ?z6 ?z7 ?z8 ?z9
    (case a0 => k_is)
    (case l0 => k_is)
    (case c0 => k_is)
    (case k0 => k_is)
    (case a1 => k_is)
    (case l1 => k_is)
    (case c1 => k_is)
    (case k1 => k_is)
    (case a2 => k_is)
    (case l2 => k_is)
    (case c2 => k_is)
    (case k2 => k_is)
    (case a3 => k_is)
    (case l3 => k_is)
    (case c3 => k_is)
    (case k3 => k_is)
    (case a4 => k_is)
    (case l4 => k_is)
    (case c4 => k_is)
    (case k4 => k_is)
    (case a5 => k_is)
    (case l5 => k_is)
    (case c5 => k_is)
    (case k5 => k_is)
    (case a6 => k_is)
    (case l6 => k_is)
    (case c6 => k_is)
    (case k6 => k_is)
    (case a7 => k_is)
    (case l7 => k_is)
    (case c7 => k_is)
    (case k7 => k_is)
    (case a8 => k_is)
    (case l8 => k_is)
    (case c8 => k_is)
    (case k8 => k_is)
    (case a9 => k_is)
    (case l9 => k_is)
    (case c9 => k_is)
    (case k9 => k_is)
    (case a10 => k_is)
    (case l10 => k_is)
    (case c10 => k_is)
    (case k10 => k_is)
    (case a11 => k_is)
    (case l11 => k_is)
    (case c11 => k_is)
    (case k11 => k_is)
    (case a12 => k_is)
    (case l12 => k_is)
    (case c12 => k_is)
    (case k12 => k_is)
    (case a13 => k_is)
    (case l13 => k_is)
    (case c13 => k_is)
    (case k13 => k_is)
    (case a14 => k_is)
    (case l14 => k_is)
    (case c14 => k_is)
    (case k14 => k_is)
    (case a15 => k_is)
    (case l15 => k_is)
    (case c15 => k_is)
    (case k15 => k_is)
    (case a16 => k_is)
    (case l16 => k_is)
    (case c16 => k_is)
    (case k16 => k_is)
    (case a17 => k_is)
    (case l17 => k_is)
    (case c17 => k_is)
    (case k17 => k_is)
    (case a18 => k_is)
    (case l18 => k_is)
    (case c18 => k_is)
    (case k18 => k_is)
    (case a19 => k_is)
    (case l19 => k_is)
    (case c19 => k_is)
    (case k19 => k_is)
    (case a20 => k_is)
    (case l20 => k_is)
    (case c20 => k_is)
    (case k20 => k_is)
    (case a21 => k_is)
    (case l21 => k_is)
    (case c21 => k_is)
    (case k21 => k_is)
    (case z0 => k_is)
    (case z1 => k_is)
    (case z2 => k_is)
    (case z3 => k_is)
    (case z4 => k_is)
    (case z5 => k_is)
    (case z6 => k_is)
    (case z7 => k_is)
    (case z8 => k_is)
    (case z9 => k_is)
#print axioms PySem.Challenge.cw_kindworks_k21_general_by_form_holds

