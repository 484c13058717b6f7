import PyProof.Rows.All
import Wide.All
import OpenK.AllK
import Wide.FinOn
import PySem.Challenge.RW_clearline_k02_texts_of_plans
import PySem.Str
import PySem.Syntax
import HandS.ForMost
import HandS.More
import HandS.IsInst
import HandS.FStr
import HandS.Walk
import HandS.Zip
import HandS.TupAny
import HandS.Style
import HandS.Deep
import HandS.Wide
import HandS.Exc
import HandS.ExcOwn
import KE.DataFind
import KE.GoesMore
import KE.GoesEnum
import HandS.Lambda
import HandS.Defaults
import HandS.HeadEnd
import HandS.Head0
import HandS.Head1
import HandS.Head2
import HandS.HeadHook4
set_option Elab.async false
set_option linter.all false
set_option autoImplicit false
/-! Cl: a small language over values. Lists that nobody changes are values; those that are changed are cells of a store. -/
namespace Cl
open PySem

abbrev Key := Sum Int Str

inductive D where
  | non | bl (b : Bool) | int (i : Int) | str (x : Str)
  | tup (ds : List D) | con (ds : List D) | scr (ds : List D) | lst (ds : List D) | dct (ks : List Key) (vs : List D) | cdc (ks : List Str) (vs : List D) | ref (n : Nat)
deriving Inhabited

inductive Cell where
  | lst (ds : List D)
  | dK (kvs : List (Key × D)) (l : Bool)
  | dT (kvs : List (List Key × D)) (l : Bool)
  | dead
deriving Inhabited

abbrev Store := List Cell
abbrev Env := List (Option D)

inductive Res (α : Type) where
  | ok (a : α) (S : Store)
  | exc (c : Str) (fs : List (Str × D)) (S : Store)
  | stuck

def Res.bind {α β : Type} (r : Res α) (k : α → Store → Res β) : Res β := match r with
  | .ok a S => k a S
  | .exc c fs S => .exc c fs S
  | .stuck => .stuck
@[simp] theorem Res.bind_ok {α β : Type} (a : α) (S : Store) (k : α → Store → Res β) : (Res.ok a S).bind k = k a S := rfl
@[simp] theorem Res.bind_exc {α β : Type} (c : Str) (fs : List (Str × D)) (S : Store) (k : α → Store → Res β) : (Res.exc c fs S : Res α).bind k = .exc c fs S := rfl
@[simp] theorem Res.bind_stuck {α β : Type} (k : α → Store → Res β) : (Res.stuck : Res α).bind k = .stuck := rfl

abbrev Fn := List D → Store → Res D

/-! ### equality, size -/
mutual
def eqv : D → D → Bool
  | .non, .non => true
  | .bl a, .bl b => a == b
  | .bl a, .int j => (if a then 1 else 0) == j
  | .int i, .bl b => i == (if b then 1 else 0)
  | .int i, .int j => i == j
  | .str x, .str y => x == y
  | .lst xs, .lst ys => eqvs xs ys
  | .tup xs, .tup ys => eqvs xs ys
  | .con xs, .con ys => eqvs xs ys
  | .con xs, .tup ys => eqvs xs ys
  | .tup xs, .con ys => eqvs xs ys
  | _, _ => false
def eqvs : List D → List D → Bool
  | [], [] => true
  | x :: xs, y :: ys => eqv x y && eqvs xs ys
  | [], _ :: _ => false
  | _ :: _, [] => false
end

/-! depth below the bound, no dict and no cell within -/
mutual
def fit : Nat → D → Bool
  | _, .non | _, .bl _ | _, .int _ | _, .str _ => true
  | 0, .tup _ | 0, .con _ | 0, .lst _ => false
  | n + 1, .tup ds | n + 1, .con ds | n + 1, .lst ds => fits n ds
  | _, .dct _ _ | _, .cdc _ _ | _, .ref _ | _, .scr _ => false
def fits : Nat → List D → Bool
  | _, [] => true
  | n, d :: ds => fit n d && fits n ds
end

/-! all cells that are named stand below n -/
mutual
def bnd (n : Nat) : D → Prop
  | .non | .bl _ | .int _ | .str _ => True
  | .tup ds | .con ds | .scr ds | .lst ds => bnds n ds
  | .dct _ vs | .cdc _ vs => bnds n vs
  | .ref k => k < n
def bnds (n : Nat) : List D → Prop
  | [] => True
  | d :: ds => bnd n d ∧ bnds n ds
end
def cbnd (n : Nat) : Cell → Prop
  | .lst ds => bnds n ds
  | .dK kvs _ => bnds n (kvs.map (·.2))
  | .dT kvs _ => bnds n (kvs.map (·.2))
  | .dead => True

def line : Nat := 16777216

/-! ### looking at values -/
/-- the items of a list -/
def lstOf (S : Store) : D → Option (List D)
  | .lst ds => some ds
  | .ref n => match S[n]? with
    | some (.lst ds) => some ds
    | _ => none
  | _ => none
/-- the items of a list or tuple -/
def seqOf (S : Store) : D → Option (List D)
  | .tup ds => some ds
  | .con ds => some ds
  | d => lstOf S d
/-- a cell that holds a list, as a value -/
def snap (S : Store) : D → D
  | .ref n => match S[n]? with
    | some (.lst ds) => .lst ds
    | _ => .ref n
  | d => d
def keyOf : D → Option Key
  | .int i => some (.inl i)
  | .str x => some (.inr x)
  | _ => none
def ofKey : Key → D
  | .inl i => .int i
  | .inr x => .str x
def keysOf : List D → Option (List Key)
  | [] => some []
  | d :: ds => match keyOf d, keysOf ds with
    | some k, some ks => some (k :: ks)
    | _, _ => none
def tkeyOf : D → Option (List Key)
  | .tup ds => keysOf ds
  | _ => none

def look {κ : Type} [DecidableEq κ] (kvs : List (κ × D)) (k : κ) : Option D := match kvs with
  | [] => none
  | (k', v) :: r => if k' = k then some v else look r k
/-- in its place, or at the end -/
def put {κ : Type} [DecidableEq κ] (kvs : List (κ × D)) (k : κ) (v : D) : List (κ × D) :=
  if (kvs.any fun kv => decide (kv.1 = k)) = true then kvs.map (fun kv => if kv.1 = k then (kv.1, v) else kv) else kvs ++ [(k, v)]

inductive Got where
  | no
  | none
  | some (d : D)
/-- what a dict holds at a key -/
def dget (S : Store) (d k : D) : Got := match d with
  | .dct ks vs => match keyOf k with
    | some q => match look (ks.zip vs) q with
      | some v => .some v
      | none => .none
    | none => .no
  | .cdc ks vs => match k with
    | .str z => (match look (ks.zip vs) z with
      | some v => .some v
      | none => .none)
    | _ => .no
  | .ref n => match S[n]? with
    | some (.dK kvs _) => (match keyOf k with
      | some q => (match look kvs q with
        | some v => .some v
        | none => .none)
      | none => .no)
    | some (.dT kvs _) => (match tkeyOf k with
      | some q => (match look kvs q with
        | some v => .some v
        | none => .none)
      | none => .no)
    | _ => .no
  | _ => .no

/-! ### operators -/
inductive Bop where | add | sub | mul | fdiv | mod | pow | xor | band
deriving DecidableEq
inductive Cop where | eq | ne | lt | le | gt | ge | is | isnot | in_ | notin
deriving DecidableEq

/-- a new list -/
def mk (nw : Bool) (ds : List D) (S : Store) : Res D := if nw then .ok (.ref S.length) (S ++ [.lst ds]) else .ok (.lst ds) S

def repl (k : Nat) (ds : List D) : List D := (List.replicate k ds).flatten

def binop (nw : Bool) : Bop → D → D → Store → Res D
  | .add, .int i, .int j, S => .ok (.int (i + j)) S
  | .add, .str x, .str y, S => if x.length + y.length ≤ line then .ok (.str (x ++ y)) S else .stuck
  | .add, .tup xs, .tup ys, S => if xs.length + ys.length ≤ line then .ok (.tup (xs ++ ys)) S else .stuck
  | .add, .con xs, .tup ys, S => if ys = [] ∨ line < xs.length + ys.length then .stuck else .ok (.tup (xs ++ ys)) S
  | .add, a, b, S => match lstOf S a, lstOf S b with
    | some xs, some ys => if xs.length + ys.length ≤ line then mk nw (xs ++ ys) S else .stuck
    | _, _ => .stuck
  | .sub, .int i, .int j, S => .ok (.int (i - j)) S
  | .mul, .int i, .int j, S => if (i.natAbs < 2 ^ 64 ∨ j.natAbs < 2 ^ 64) then .ok (.int (i * j)) S else .stuck
  | .mul, a, .int k, S => match lstOf S a with
    | some xs => if 0 ≤ k ∧ k < 2 ^ 62 ∧ xs.length * k.toNat ≤ line then mk nw (repl k.toNat xs) S else .stuck
    | none => .stuck
  | .fdiv, .int i, .int j, S => if j ≠ 0 ∧ j.natAbs < 1073741824 then .ok (.int (i.fdiv j)) S else .stuck
  | .mod, .int i, .int j, S => if j ≠ 0 then .ok (.int (i.fmod j)) S else .stuck
  | .pow, .int i, .int j, S => if 0 ≤ j ∧ j ≤ 1000000 ∧ i.natAbs < 2 ^ 64 then .ok (.int (i ^ j.toNat)) S else .stuck
  | .xor, .int i, .int j, S => if 0 ≤ i ∧ 0 ≤ j then .ok (.int ((i.toNat ^^^ j.toNat : Nat) : Int)) S else .stuck
  | .band, .int i, .int j, S => if 0 ≤ i ∧ 0 ≤ j then .ok (.int ((i.toNat &&& j.toNat : Nat) : Int)) S else .stuck
  | _, _, _, _ => .stuck

/-- one sign -/
def sign (c : Nat) : Str := ⟨#[c]⟩

def cmpop : Cop → D → D → Store → Res D
  | .eq, a, b, S => if fit 60 (snap S a) && fit 60 (snap S b) then .ok (.bl (eqv (snap S a) (snap S b))) S else .stuck
  | .ne, a, b, S => if fit 60 (snap S a) && fit 60 (snap S b) then .ok (.bl (!eqv (snap S a) (snap S b))) S else .stuck
  | .lt, .int i, .int j, S => .ok (.bl (decide (i < j))) S
  | .le, .int i, .int j, S => .ok (.bl (decide (i ≤ j))) S
  | .gt, .int i, .int j, S => .ok (.bl (decide (j < i))) S
  | .ge, .int i, .int j, S => .ok (.bl (decide (j ≤ i))) S
  | .lt, .str x, .str y, S => .ok (.bl (decide (x.cps.toList < y.cps.toList))) S
  | .is, a, .non, S => .ok (.bl (match a with | .non => true | _ => false)) S
  | .isnot, a, .non, S => .ok (.bl (match a with | .non => false | _ => true)) S
  | .in_, .str x, .str y, S => if x.length = 1 then .ok (.bl (decide (x.cps.getD 0 0 ∈ y.cps.toList))) S else .stuck
  | .notin, .str x, .str y, S => if x.length = 1 then .ok (.bl (!decide (x.cps.getD 0 0 ∈ y.cps.toList))) S else .stuck
  | .in_, a, b, S => match seqOf S b with
    | some ds => if fit 60 a && fits 60 ds then .ok (.bl (ds.any fun d => eqv d a)) S else .stuck
    | none => match dget S b a with
      | .no => .stuck
      | .none => .ok (.bl false) S
      | .some _ => .ok (.bl true) S
  | .notin, a, b, S => match seqOf S b with
    | some ds => if fit 60 a && fits 60 ds then .ok (.bl (!ds.any fun d => eqv d a)) S else .stuck
    | none => match dget S b a with
      | .no => .stuck
      | .none => .ok (.bl true) S
      | .some _ => .ok (.bl false) S
  | _, _, _, _ => .stuck

/-! ### places -/
def ixN (n : Nat) (i : Int) : Option Nat := if 0 ≤ i then (if i < n then some i.toNat else none) else if -(n : Int) ≤ i then some (i + n).toNat else none
def atI {α : Type} (xs : List α) (i : Int) : Option α := (ixN xs.length i).bind fun j => xs[j]?
def getitem : D → D → Store → Res D
  | .str x, .int i, S => match atI x.cps.toList i with
    | some c => .ok (.str (sign c)) S
    | none => .stuck
  | a, .int i, S => match seqOf S a with
    | some ds => (match atI ds i with
      | some d => .ok d S
      | none => .stuck)
    | none => match dget S a (.int i) with
      | .some d => .ok d S
      | _ => .stuck
  | a, k, S => match dget S a k with
    | .some d => .ok d S
    | _ => .stuck
/-- a bound of a slice -/
def sIx (n d : Nat) : Option Int → Nat
  | none => d
  | some v => if v < 0 then (v + n).toNat else min v.toNat n
def cut {α : Type} (xs : List α) (lo hi : Option Int) : List α := (xs.drop (sIx xs.length 0 lo)).take (sIx xs.length xs.length hi - sIx xs.length 0 lo)
def slice (nw : Bool) : D → Option Int → Option Int → Store → Res D
  | .str x, lo, hi, S => .ok (.str ⟨(cut x.cps.toList lo hi).toArray⟩) S
  | .tup ds, lo, hi, S => .ok (.tup (cut ds lo hi)) S
  | .scr ds, lo, hi, S => mk nw (cut ds lo hi) S
  | d, lo, hi, S => match lstOf S d with
    | some ds => mk nw (cut ds lo hi) S
    | none => .stuck
def revd (nw : Bool) : D → Store → Res D
  | d, S => match lstOf S d with
    | some ds => mk nw ds.reverse S
    | none => .stuck

/-! ### built-in functions and methods -/
inductive Bi where | len | all | any | tuple | list | int | str | max2 | min2
deriving DecidableEq
def bools : List D → Option (List Bool)
  | [] => some []
  | .bl b :: ds => (bools ds).map (b :: ·)
  | _ :: _ => none
def biSem (nw : Bool) : Bi → List D → Store → Res D
  | .len, [.str x], S => .ok (.int x.length) S
  | .len, [d], S => match seqOf S d with
    | some ds => .ok (.int ds.length) S
    | none => .stuck
  | .all, [d], S => match (lstOf S d).bind bools with
    | some bs => .ok (.bl (bs.all id)) S
    | none => .stuck
  | .any, [d], S => match (lstOf S d).bind bools with
    | some bs => .ok (.bl (bs.any id)) S
    | none => .stuck
  | .tuple, [.tup ds], S => .ok (.tup ds) S
  | .tuple, [d], S => match lstOf S d with
    | some ds => .ok (.tup ds) S
    | none => .stuck
  | .list, [d], S => match seqOf S d with
    | some ds => mk nw ds S
    | none => .stuck
  | .int, [.int i], S => .ok (.int i) S
  | .str, [.int i], S => if i.natAbs.log2 < 1920 then .ok (.str (toString i : String)) S else .stuck
  | .max2, [.int i, .int j], S => .ok (.int (if j > i then j else i)) S
  | .min2, [.int i, .int j], S => .ok (.int (if j < i then j else i)) S
  | _, _, _ => .stuck

inductive Mt where | append | pop | popAt | remove | join | extend | get1 | get2
deriving DecidableEq
def txts : List D → Option (List Str)
  | [] => some []
  | .str x :: ds => (txts ds).map (x :: ·)
  | _ :: _ => none
def joinLen (sep : Str) (ss : List Str) : Nat := (ss.map fun x => x.length).sum + ss.length * sep.length
def mtSem : Mt → D → List D → Store → Res D
  | .append, .ref n, [d], S => match S[n]? with
    | some (.lst ds) => if ds.length < line then .ok .non (S.set n (.lst (ds ++ [d]))) else .stuck
    | _ => .stuck
  | .pop, .ref n, [], S => match S[n]? with
    | some (.lst ds) => (match ds[ds.length - 1]? with
      | some d => .ok d (S.set n (.lst ds.dropLast))
      | none => .stuck)
    | _ => .stuck
  | .popAt, .ref n, [.int i], S => match S[n]? with
    | some (.lst ds) => (match ixN ds.length i with
      | some j => (match ds[j]? with
        | some d => .ok d (S.set n (.lst (ds.eraseIdx j)))
        | none => .stuck)
      | none => .stuck)
    | _ => .stuck
  | .remove, .ref n, [a], S => match S[n]? with
    | some (.lst ds) => if fit 60 a && fits 60 ds then (match ds.findIdx? (fun d => eqv d a) with
      | some j => .ok .non (S.set n (.lst (ds.eraseIdx j)))
      | none => .stuck) else .stuck
    | _ => .stuck
  | .extend, .ref n, [d], S => match S[n]?, lstOf S d with
    | some (.lst ds), some xs => if ds.length + xs.length ≤ line then .ok .non (S.set n (.lst (ds ++ xs))) else .stuck
    | _, _ => .stuck
  | .join, .str sep, [d], S => match (seqOf S d).bind txts with
    | some ss => if joinLen sep ss ≤ line then .ok (.str (Str.join sep ss)) S else .stuck
    | none => .stuck
  | .get1, d, [k], S => match dget S d k with
    | .no => .stuck
    | .none => .ok .non S
    | .some v => .ok v S
  | .get2, d, [k, x], S => match dget S d k with
    | .no => .stuck
    | .none => .ok x S
    | .some v => .ok v S
  | _, _, _, _ => .stuck

/-- the receiver is of the method's type -/
def mtTy (m : Mt) (S : Store) : D → Bool
  | .str _ => match m with
    | .join => true
    | _ => false
  | .dct _ _ => match m with
    | .get1 | .get2 => true
    | _ => false
  | .ref n => match m, S[n]? with
    | .append, some (.lst _) | .pop, some (.lst _) | .popAt, some (.lst _) | .remove, some (.lst _) | .extend, some (.lst _) => true
    | .get1, some (.dK _ _) | .get2, some (.dK _ _) | .get1, some (.dT _ _) | .get2, some (.dT _ _) => true
    | _, _ => false
  | _ => false

/-- o[i] = v -/
def setitem : D → D → D → Store → Res Unit
  | .ref n, i, v, S => match S[n]?, i with
    | some (.lst ds), .int k => (match ixN ds.length k with
      | some j => .ok () (S.set n (.lst (ds.set j v)))
      | none => .stuck)
    | some (.dK kvs false), k => (match keyOf k with
      | some q => if kvs.length < line then .ok () (S.set n (.dK (put kvs q v) false)) else .stuck
      | none => .stuck)
    | some (.dT kvs false), k => (match tkeyOf k with
      | some q => if kvs.length < line then .ok () (S.set n (.dT (put kvs q v) false)) else .stuck
      | none => .stuck)
    | _, _ => .stuck
  | _, _, _, _ => .stuck

/-- x op= y of a name -/
def augop (op : Bop) : D → D → Store → Res D
  | .ref n, d, S => match op, S[n]?, lstOf S d with
    | .add, some (.lst ds), some xs => if ds.length + xs.length ≤ line then .ok (.ref n) (S.set n (.lst (ds ++ xs))) else .stuck
    | _, _, _ => .stuck
  | .int i, .int j, S => match op with
    | .add => .ok (.int (i + j)) S
    | .sub => .ok (.int (i - j)) S
    | _ => .stuck
  | .str x, .str y, S => match op with
    | .add => if x.length + y.length ≤ line then .ok (.str (x ++ y)) S else .stuck
    | _ => .stuck
  | _, _, _ => .stuck

/-- is of one of the built-in types -/
inductive Ty where | int | bool | str | tuple | list | dict
deriving DecidableEq
def isTy (S : Store) : Ty → D → Bool
  | .int, .int _ => true
  | .int, .bl _ => true
  | .bool, .bl _ => true
  | .str, .str _ => true
  | .tuple, .tup _ => true
  | .tuple, .con _ => true
  | .list, .lst _ => true
  | .list, .ref n => match S[n]? with
    | some (.lst _) => true
    | _ => false
  | .dict, .dct _ _ => true
  | .dict, .cdc _ _ => true
  | .dict, .ref n => match S[n]? with
    | some (.dK _ _) => true
    | some (.dT _ _) => true
    | _ => false
  | _, _ => false
/-- a value whose type can be asked -/
def tyOk (S : Store) : D → Bool
  | .ref n => match S[n]? with
    | some .dead => false
    | some (.dT _ true) => false
    | some _ => true
    | none => false
  | .scr _ => false
  | _ => true

/-! ### expressions and statements -/
inductive Tg where
  | nm (i : Nat)
  | tp (ts : List Tg)

inductive E where
  | var (i : Nat)
  | lit (d : D)
  | glo (i : Nat)
  | call (i : Nat) (as : List E)
  | callk (i : Nat) (as : List E)
  | bin (op : Bop) (nw : Bool) (a b : E)
  | neg (a : E)
  | not_ (a : E)
  | and_ (as : List E)
  | or_ (as : List E)
  | ife (t a b : E)
  | cmp (op : Cop) (a b : E)
  | cmp2 (o1 o2 : Cop) (a b c : E)
  | tup (as : List E)
  | lst (nw : Bool) (as : List E)
  | dic (nw : Bool) (kvs : List E)
  | dict0
  | lc (nw : Bool) (el : E) (t : Tg) (it : E) (ifs : Option E) (own : List Nat)
  | lcd (nw : Bool) (el : E) (t : Tg) (i : Nat) (ifs : Option E) (own : List Nat)
  | bi (b : Bi) (nw : Bool) (as : List E)
  | isi (a : E) (t : Ty)
  | mt (m : Mt) (o : E) (as : List E)
  | idx (a i : E)
  | sl (nw : Bool) (a : E) (lo hi : Option E)
  | rev (nw : Bool) (a : E)
  | fs (as : List E)
  | fv (a : E)
  | rng1 (a : E)
  | rng2 (a b : E)
  | enum (a : E)
  | zip2 (a b : E)
  | walk (a : E)

inductive S where
  | asg (t : Tg) (e : E)
  | sub (o i e : E)
  | aug (op : Bop) (i : Nat) (e : E)
  | expr (e : E)
  | ret (e : E)
  | retN
  | ite (t : E) (a b : List S)
  | for_ (t : Tg) (it : E) (body : List S)
  | ford (t : Tg) (i : Nat) (body : List S)
  | while_ (t : E) (body : List S)
  | pass | brk | cnt
  | never

inductive Ctl where
  | nx (ρ : Env)
  | rt (d : D)
  | bk (ρ : Env)
  | ct (ρ : Env)
  | ex (c : Str) (fs : List (Str × D)) (ρ : Env)

/-- what a name of the module stands for: a def with its parameters and what it computes; a def called by keywords alone, each parameter's keyword told by pi; a constant; nothing (a built-in name) -/
inductive Use where
  | fn (f : Str) (ps : List Str) (F : Fn)
  | kw (f : Str) (ks : List Str) (pi : List Nat) (F : Fn)
  | con (x : Str) (d : D)
  | free (x : Str)
abbrev Tab := List Use

/-! ### running -/
mutual
def asgT : Tg → D → Env → Option Env
  | .nm i, d, ρ => some (ρ.set i (some d))
  | .tp ts, d, ρ => match d with
    | .tup ds => asgTs ts ds ρ
    | .con ds => asgTs ts ds ρ
    | _ => none
def asgTs : List Tg → List D → Env → Option Env
  | [], [], ρ => some ρ
  | t :: ts, d :: ds, ρ => (asgT t d ρ).bind fun ρ' => asgTs ts ds ρ'
  | _, _, _ => none
end
def wipe (ρ : Env) : List Nat → Env
  | [] => ρ
  | v :: vs => (wipe ρ vs).set v none

/-- what is walked: the items, the cell that has to stay as it is -/
structure Itr where
  items : List D
  cell : Option (Nat × Cell)
/-- the cell stands -/
def Itr.st (J : Itr) (S : Store) : Prop := match J.cell with
  | some (n, c) => S[n]? = some c
  | none => True

def pairs : Nat → List D → List D
  | _, [] => []
  | i, d :: ds => .tup [.int i, d] :: pairs (i + 1) ds
def zipD : List D → List D → List D
  | x :: xs, y :: ys => .tup [x, y] :: zipD xs ys
  | _, _ => []
def cellOf (S : Store) : D → Option (Nat × Cell)
  | .ref n => (S[n]?).map fun c => (n, c)
  | _ => none

def toB : D → Store → Res Bool
  | .bl b, S => .ok b S
  | _, _ => .stuck
def toI : D → Store → Res Int
  | .int i, S => .ok i S
  | _, _ => .stuck
/-- no exception may come -/
def Res.nox {α : Type} (r : Res α) : Res α := match r with
  | .exc _ _ _ => .stuck
  | r => r
/-- an exception keeps the names as they are -/
def Res.st {α : Type} (r : Res α) (ρ : Env) (k : α → Store → Res Ctl) : Res Ctl := match r with
  | .ok a S => k a S
  | .exc c fs S => .ok (.ex c fs ρ) S
  | .stuck => .stuck
@[simp] theorem Res.st_ok {α : Type} (a : α) (S : Store) (ρ : Env) (k : α → Store → Res Ctl) : (Res.ok a S).st ρ k = k a S := rfl
@[simp] theorem Res.st_exc {α : Type} (c : Str) (fs : List (Str × D)) (S : Store) (ρ : Env) (k : α → Store → Res Ctl) : (Res.exc c fs S : Res α).st ρ k = .ok (.ex c fs ρ) S := rfl
@[simp] theorem Res.st_stuck {α : Type} (ρ : Env) (k : α → Store → Res Ctl) : (Res.stuck : Res α).st ρ k = .stuck := rfl
@[simp] theorem Res.nox_ok {α : Type} (a : α) (S : Store) : (Res.ok a S).nox = .ok a S := rfl
@[simp] theorem Res.nox_stuck {α : Type} : (Res.stuck : Res α).nox = .stuck := rfl

open Classical in
noncomputable def lcL (J : Itr) (step : D → Store → Res (Option D)) : List D → Store → Res (List D)
  | [], S => if J.st S then .ok [] S else .stuck
  | d :: ds, S => if J.st S then (step d S).bind fun o S1 => (lcL J step ds S1).bind fun r S2 => .ok (o.toList ++ r) S2 else .stuck
open Classical in
noncomputable def forL (J : Itr) (f : D → Env → Store → Res Ctl) : List D → Env → Store → Res Ctl
  | [], ρ, S => if J.st S then .ok (.nx ρ) S else .stuck
  | d :: ds, ρ, S => if J.st S then (f d ρ S).bind fun c S1 => match c with
    | .nx ρ1 => forL J f ds ρ1 S1
    | .ct ρ1 => forL J f ds ρ1 S1
    | .bk ρ1 => .ok (.nx ρ1) S1
    | c => .ok c S1 else .stuck

/-- a while: at most so many turns -/
def whileN (t : Env → Store → Res Bool) (f : Env → Store → Res Ctl) : Nat → Env → Store → Option (Res Ctl)
  | 0, _, _ => none
  | n + 1, ρ, S => match t ρ S with
    | .ok true S1 => (match f ρ S1 with
      | .ok (.nx ρ1) S2 => whileN t f n ρ1 S2
      | .ok (.ct ρ1) S2 => whileN t f n ρ1 S2
      | .ok (.bk ρ1) S2 => some (.ok (.nx ρ1) S2)
      | r => some r)
    | .ok false S1 => some (.ok (.nx ρ) S1)
    | .exc c fs S1 => some (.ok (.ex c fs ρ) S1)
    | .stuck => some .stuck
open Classical in
noncomputable def whileL (t : Env → Store → Res Bool) (f : Env → Store → Res Ctl) (ρ : Env) (S : Store) : Res Ctl :=
  if h : ∃ n r, whileN t f n ρ S = some r then Classical.choose (Classical.choose_spec h) else .stuck

def fmtD : D → Store → Res D
  | .str x, S => .ok (.str x) S
  | .int i, S => if i.natAbs.log2 < 1920 then .ok (.str (toString i : String)) S else .stuck
  | _, _ => .stuck
/-- the pairs of a written dict, each key once -/
def kvOf : List D → Option (List (Key × D))
  | [] => some []
  | k :: v :: r => match keyOf k, kvOf r with
    | some q, some (l : List (Key × D)) => if (look l q).isSome then none else some ((q, v) :: l)
    | _, _ => none
  | _ => none

/-- the keys of a dict in a cell, as they are walked -/
def dkeys : Cell → Option (List D × Cell)
  | .dK kvs false => some (kvs.map fun kv => ofKey kv.1, .dK kvs true)
  | .dT kvs false => some (kvs.map fun kv => .tup (kv.1.map ofKey), .dT kvs true)
  | _ => none
def unlock : Cell → Cell
  | .dK kvs _ => .dK kvs false
  | .dT kvs _ => .dT kvs false
  | c => c
def callU (Φ : Tab) (i : Nat) (ds : List D) (S : Store) : Res D := match Φ[i]? with
  | some (.fn _ _ F) => F ds S
  | _ => .stuck

def perm {α : Type} (pi : List Nat) (l : List α) : List α := pi.filterMap fun i => l[i]?
def callK (Φ : Tab) (i : Nat) (ds : List D) (S : Store) : Res D := match Φ[i]? with
  | some (.kw _ _ pi F) => F (perm pi ds) S
  | _ => .stuck

mutual
noncomputable def evE (Φ : Tab) : E → Env → Store → Res D
  | .var i, ρ, S => match ρ[i]? with
    | some (some d) => .ok d S
    | _ => .stuck
  | .lit d, _, S => .ok d S
  | .glo i, _, S => match Φ[i]? with
    | some (.con _ d) => .ok d S
    | _ => .stuck
  | .call i as, ρ, S => (evEs Φ as ρ S).bind fun ds S1 => callU Φ i ds S1
  | .callk i as, ρ, S => (evEs Φ as ρ S).bind fun ds S1 => callK Φ i ds S1
  | .bin op nw a b, ρ, S => (evE Φ a ρ S).bind fun x S1 => (evE Φ b ρ S1).bind fun y S2 => binop nw op x y S2
  | .neg a, ρ, S => (evE Φ a ρ S).bind fun x S1 => (toI x S1).bind fun i S2 => .ok (.int (-i)) S2
  | .not_ a, ρ, S => ((evE Φ a ρ S).bind toB).bind fun b S1 => .ok (.bl (!b)) S1
  | .and_ as, ρ, S => (evAnd Φ as ρ S).bind fun b S1 => .ok (.bl b) S1
  | .or_ as, ρ, S => (evOr Φ as ρ S).bind fun b S1 => .ok (.bl b) S1
  | .ife t a b, ρ, S => ((evE Φ t ρ S).bind toB).bind fun c S1 => if c then evE Φ a ρ S1 else evE Φ b ρ S1
  | .cmp op a b, ρ, S => (evE Φ a ρ S).bind fun x S1 => (evE Φ b ρ S1).bind fun y S2 => cmpop op x y S2
  | .cmp2 o1 o2 a b c, ρ, S => (evE Φ a ρ S).bind fun x S1 => (evE Φ b ρ S1).bind fun y S2 => ((cmpop o1 x y S2).bind toB).bind fun r S3 =>
      if r then (evE Φ c ρ S3).bind fun z S4 => cmpop o2 y z S4 else .ok (.bl false) S3
  | .tup as, ρ, S => (evEs Φ as ρ S).bind fun ds S1 => .ok (.tup ds) S1
  | .lst nw as, ρ, S => (evEs Φ as ρ S).bind fun ds S1 => mk nw ds S1
  | .dic nw as, ρ, S => (evEs Φ as ρ S).bind fun ds S1 => match kvOf ds with
      | some kvs => if nw then .ok (.ref S1.length) (S1 ++ [.dK kvs false]) else .ok (.dct (kvs.map (·.1)) (kvs.map (·.2))) S1
      | none => .stuck
  | .dict0, _, S => .ok (.ref S.length) (S ++ [.dT [] false])
  | .lc nw el t it ifs own, ρ, S => (evIt Φ it ρ S).bind fun J S1 => (lcL J (fun d S2 => match asgT t d (wipe ρ own) with
      | none => .stuck
      | some ρ2 => (evIf Φ ifs ρ2 S2).bind fun b S3 => if b then (evE Φ el ρ2 S3).bind fun y S4 => .ok (some y) S4 else .ok none S3) J.items S1).nox.bind fun ds S2 => mk nw ds S2
  | .lcd nw el t i ifs own, ρ, S => match ρ[i]? with
    | some (some (.ref n)) => (match S[n]? with
      | some c => (match dkeys c with
        | some (ks, c') => (lcL ⟨ks, some (n, c')⟩ (fun d S2 => match asgT t d (wipe ρ own) with
            | none => .stuck
            | some ρ2 => (evIf Φ ifs ρ2 S2).bind fun b S3 => if b then (evE Φ el ρ2 S3).bind fun y S4 => .ok (some y) S4 else .ok none S3) ks (S.set n c')).nox.bind fun ds S2 => mk nw ds (S2.set n c)
        | none => .stuck)
      | none => .stuck)
    | _ => .stuck
  | .bi b nw as, ρ, S => (evEs Φ as ρ S).bind fun ds S1 => biSem nw b ds S1
  | .isi a t, ρ, S => (evE Φ a ρ S).bind fun x S1 => if tyOk S1 x then .ok (.bl (isTy S1 t x)) S1 else .stuck
  | .mt m o as, ρ, S => (evE Φ o ρ S).bind fun x S1 => if mtTy m S1 x then (evEs Φ as ρ S1).bind fun ds S2 => mtSem m x ds S2 else .stuck
  | .idx a i, ρ, S => (evE Φ a ρ S).bind fun x S1 => (evE Φ i ρ S1).bind fun y S2 => getitem x y S2
  | .sl nw a lo hi, ρ, S => (evE Φ a ρ S).bind fun x S1 => (evO Φ lo ρ S1).bind fun l S2 => (evO Φ hi ρ S2).bind fun h S3 => slice nw x l h S3
  | .rev nw a, ρ, S => (evE Φ a ρ S).bind fun x S1 => revd nw x S1
  | .fs as, ρ, S => (evF1 Φ as ⟨#[]⟩ ρ S).bind fun x S1 => .ok (.str x) S1
  | .fv a, ρ, S => (evE Φ a ρ S).bind fun x S1 => fmtD x S1
  | .rng1 _, _, _ => .stuck
  | .rng2 _ _, _, _ => .stuck
  | .enum _, _, _ => .stuck
  | .zip2 _ _, _, _ => .stuck
  | .walk _, _, _ => .stuck
noncomputable def evEs (Φ : Tab) : List E → Env → Store → Res (List D)
  | [], _, S => .ok [] S
  | e :: es, ρ, S => (evE Φ e ρ S).bind fun x S1 => (evEs Φ es ρ S1).bind fun xs S2 => .ok (x :: xs) S2
noncomputable def evO (Φ : Tab) : Option E → Env → Store → Res (Option Int)
  | none, _, S => .ok none S
  | some e, ρ, S => (evE Φ e ρ S).bind fun x S1 => (toI x S1).bind fun i S2 => .ok (some i) S2
noncomputable def evAnd (Φ : Tab) : List E → Env → Store → Res Bool
  | [], _, S => .ok true S
  | e :: es, ρ, S => ((evE Φ e ρ S).bind toB).bind fun b S1 => if b then evAnd Φ es ρ S1 else .ok false S1
noncomputable def evOr (Φ : Tab) : List E → Env → Store → Res Bool
  | [], _, S => .ok false S
  | e :: es, ρ, S => ((evE Φ e ρ S).bind toB).bind fun b S1 => if b then .ok true S1 else evOr Φ es ρ S1
/-- the test of a comprehension (none or one) -/
noncomputable def evIf (Φ : Tab) : Option E → Env → Store → Res Bool
  | none, _, S => .ok true S
  | some e, ρ, S => (evE Φ e ρ S).bind toB
/-- the parts of an f-string, one behind the other -/
noncomputable def evF1 (Φ : Tab) : List E → Str → Env → Store → Res Str
  | [], acc, _, S => .ok acc S
  | e :: es, acc, ρ, S => (evE Φ e ρ S).bind fun x S1 => match x with
    | .str y => if acc.length + y.length ≤ line then evF1 Φ es (acc ++ y) ρ S1 else .stuck
    | _ => .stuck
noncomputable def evIt (Φ : Tab) : E → Env → Store → Res Itr
  | .rng1 a, ρ, S => (evE Φ a ρ S).bind fun x S1 => (toI x S1).bind fun n S2 => if -line ≤ n ∧ n ≤ line then .ok ⟨(List.range n.toNat).map fun (k : Nat) => .int k, none⟩ S2 else .stuck
  | .rng2 a b, ρ, S => (evE Φ a ρ S).bind fun x S1 => (evE Φ b ρ S1).bind fun y S2 => (toI x S2).bind fun lo S3 => (toI y S3).bind fun hi S4 =>
      if -line ≤ lo ∧ lo ≤ line ∧ -line ≤ hi ∧ hi ≤ line ∧ hi - lo ≤ line then .ok ⟨(List.range (hi - lo).toNat).map fun (k : Nat) => .int (lo + k), none⟩ S4 else .stuck
  | .enum a, ρ, S => (evE Φ a ρ S).bind fun x S1 => match seqOf S1 x with
    | some ds => .ok ⟨pairs 0 ds, cellOf S1 x⟩ S1
    | none => .stuck
  | .zip2 a b, ρ, S => (evE Φ a ρ S).bind fun x S1 => (evE Φ b ρ S1).bind fun y S2 => match x, y with
    | .tup xs, .tup ys => .ok ⟨zipD xs ys, none⟩ S2
    | .lst xs, .lst ys => .ok ⟨zipD xs ys, none⟩ S2
    | _, _ => .stuck
  | .walk e, ρ, S => (evE Φ e ρ S).bind fun x S1 => match x with
    | .str z => .ok ⟨z.cps.toList.map fun c => .str (sign c), none⟩ S1
    | x => (match seqOf S1 x with
      | some ds => .ok ⟨ds, cellOf S1 x⟩ S1
      | none => .stuck)
  | _, _, _ => .stuck
end

open Classical in
/-- behind a loop over a dict: it is as it was, no exception comes -/
noncomputable def unlk (n : Nat) (c c' : Cell) (r : Ctl) (S : Store) : Res Ctl := match r with
  | .ex _ _ _ => .stuck
  | r => if S[n]? = some c' then .ok r (S.set n c) else .stuck

mutual
noncomputable def evS (Φ : Tab) : S → Env → Store → Res Ctl
  | .asg t e, ρ, S => (evE Φ e ρ S).st ρ fun d S1 => match asgT t d ρ with
    | some ρ1 => .ok (.nx ρ1) S1
    | none => .stuck
  | .sub o i e, ρ, S => (evE Φ e ρ S).st ρ fun v S1 => (evE Φ o ρ S1).st ρ fun x S2 => (evE Φ i ρ S2).st ρ fun y S3 => (setitem x y v S3).st ρ fun _ S4 => .ok (.nx ρ) S4
  | .aug op i e, ρ, S => match ρ[i]? with
    | some (some x) => (evE Φ e ρ S).st ρ fun y S1 => (augop op x y S1).st ρ fun z S2 => .ok (.nx (ρ.set i (some z))) S2
    | _ => .stuck
  | .expr e, ρ, S => (evE Φ e ρ S).st ρ fun _ S1 => .ok (.nx ρ) S1
  | .ret e, ρ, S => (evE Φ e ρ S).st ρ fun d S1 => .ok (.rt d) S1
  | .retN, _, S => .ok (.rt .non) S
  | .ite t a b, ρ, S => ((evE Φ t ρ S).bind toB).st ρ fun c S1 => if c then evSs Φ a ρ S1 else evSs Φ b ρ S1
  | .for_ t it body, ρ, S => (evIt Φ it ρ S).st ρ fun J S1 => forL J (fun d ρ1 S2 => match asgT t d ρ1 with
      | none => .stuck
      | some ρ2 => evSs Φ body ρ2 S2) J.items ρ S1
  | .ford t i body, ρ, S => match ρ[i]? with
    | some (some (.ref n)) => (match S[n]? with
      | some c => (match dkeys c with
        | some (ks, c') => (forL ⟨ks, some (n, c')⟩ (fun d ρ1 S2 => match asgT t d ρ1 with
            | none => .stuck
            | some ρ2 => evSs Φ body ρ2 S2) ks ρ (S.set n c')).bind fun r S2 => unlk n c c' r S2
        | none => .stuck)
      | none => .stuck)
    | _ => .stuck
  | .while_ t body, ρ, S => whileL (fun ρ S => (evE Φ t ρ S).bind toB) (evSs Φ body) ρ S
  | .pass, ρ, S => .ok (.nx ρ) S
  | .brk, ρ, S => .ok (.bk ρ) S
  | .cnt, ρ, S => .ok (.ct ρ) S
  | .never, _, _ => .stuck
noncomputable def evSs (Φ : Tab) : List S → Env → Store → Res Ctl
  | [], ρ, S => .ok (.nx ρ) S
  | s :: ss, ρ, S => (evS Φ s ρ S).bind fun c S1 => match c with
    | .nx ρ1 => evSs Φ ss ρ1 S1
    | c => .ok c S1
end

/-! ### a def -/
open Classical in
/-- the cells that were there ahead of the call alone, where nothing names a later one -/
noncomputable def trim (n : Nat) (S : Store) (d : D) (S1 : Store) : Store :=
  if bnd n d ∧ ∀ i, i < n → S1[i]? = S[i]? ∨ ∃ c, S1[i]? = some c ∧ cbnd n c then S1.take n else S1
noncomputable def fin (S : Store) (d : D) (S1 : Store) : Res D := .ok d (trim S.length S d S1)
/-- n: how many names the def has -/
noncomputable def evF (Φ : Tab) (n : Nat) (body : List S) : Fn := fun ds S =>
  match evSs Φ body (ds.map some ++ List.replicate (n - ds.length) none) S with
  | .ok (.rt d) S1 => fin S d S1
  | .ok (.nx _) S1 => fin S .non S1
  | .ok (.ex c fs _) S1 => .exc c fs S1
  | _ => .stuck
end Cl

set_option linter.all false
set_option autoImplicit false
set_option maxRecDepth 100000
/-! Cl: how values of Cl stand for values of the model. -/
namespace Cl
open PySem L2

abbrev Frag := PySem.W.Frag

/-- a moment: lists in the making that nothing names yet; where the cells stand; the cells; the abstract heap -/
structure Sit where
  pv : List Addr
  m : List Addr
  S : Store
  H : Hp
/-- no live cell stands at a -/
def NL (A : Sit) (a : Addr) : Prop := ∀ (i : Nat) (c : Cell), A.m[i]? = some a → A.S[i]? = some c → c = .dead
def Fz (A : Sit) (a : Addr) : Prop := a ∉ A.pv ∧ NL A a
def TAt (A : Sit) (a : Addr) (vs : List V) : Prop := A.H a = some (.tup vs)
/-- a written tuple -/
def KT (K : Frag) (a : Addr) (vs : List V) : Prop := ∀ H, SqT K H a vs
def LAt (A : Sit) (a : Addr) (vs : List V) : Prop := A.H a = some (.lst vs) ∧ Fz A a
/-- the script -/
def SAt (K : Frag) (A : Sit) (a : Addr) (vs : List V) : Prop := (∃ o, A.H a = some (.frz o (.lst vs)) ∧ Fz A a) ∨ ∀ H, SqL K H a vs
/-- a written dict with text keys -/
def KD (K : Frag) (w : World) (a : Addr) (ks : List Str) (vs : List V) : Prop := ∃ es n, KDict K w a es n ∧
  (∀ z : Str, match valV (ks.zip vs) z with
    | some v => ∃ u, PySem.W.nsIn K a z = some (some u) ∧ RelV v u
    | none => PySem.W.nsIn K a z = some none)
def DAt (A : Sit) (a : Addr) (ks : List Key) (vs : List V) : Prop := A.H a = some (.dK (ks.zip vs)) ∧ Fz A a
/-- a text that is not too long, of code points -/
def okS (x : Str) : Prop := x.length ≤ line ∧ x.cps.all (fun c => decide (c < 0x110000)) = true

def okK : Key → Prop
  | .inl _ => True
  | .inr x => okS x

mutual
inductive RV (K : Frag) (w : World) (A : Sit) : V → D → Prop
  | non : RV K w A .non .non
  | bl (b : Bool) : RV K w A (.bl b) (.bl b)
  | int (i : Int) : RV K w A (.int i) (.int i)
  | str (x : Str) (h : okS x) : RV K w A (.str x) (.str x)
  | tup {a : Addr} {vs : List V} {ds : List D} (h : TAt A a vs) (r : RVs K w A vs ds) : RV K w A (.ref a) (.tup ds)
  | con {a : Addr} {vs : List V} {ds : List D} (h : KT K a vs) (r : RVs K w A vs ds) : RV K w A (.ref a) (.con ds)
  | scr {a : Addr} {vs : List V} {ds : List D} (h : SAt K A a vs) (r : RVs K w A vs ds) : RV K w A (.ref a) (.scr ds)
  | lst {a : Addr} {vs : List V} {ds : List D} (h : LAt A a vs) (r : RVs K w A vs ds) : RV K w A (.ref a) (.lst ds)
  | dct {a : Addr} {ks : List Key} {vs : List V} {ds : List D} (h : DAt A a ks vs) (hl : ks.length = ds.length) (r : RVs K w A vs ds) : RV K w A (.ref a) (.dct ks ds)
  | cdc {a : Addr} {ks : List Str} {vs : List V} {ds : List D} (h : KD K w a ks vs) (hl : ks.length = ds.length) (r : RVs K w A vs ds) : RV K w A (.ref a) (.cdc ks ds)
  | ref {a : Addr} {n : Nat} (h : A.m[n]? = some a) : RV K w A (.ref a) (.ref n)
inductive RVs (K : Frag) (w : World) (A : Sit) : List V → List D → Prop
  | nil : RVs K w A [] []
  | cons {v : V} {d : D} {vs : List V} {ds : List D} (h : RV K w A v d) (r : RVs K w A vs ds) : RVs K w A (v :: vs) (d :: ds)
end

/-- from A to B: what nothing may change stands -/
structure ExtR (A B : Sit) : Prop where
  pre : ∃ l, B.m = A.m ++ l
  keep : ∀ a o, A.H a = some o → Fz A a → B.H a = some o ∧ Fz B a
  tups : ∀ a xs, A.H a = some (.tup xs) → B.H a = some (.tup xs)
/-- .. and what is locked -/
structure Ext0 (A B : Sit) : Prop extends ExtR A B where
  frzs : ∀ a o u, A.H a = some (.frz o u) → B.H a = some (.frz o u)
/-- .. and the lists in the making too -/
structure Ext (A B : Sit) : Prop extends Ext0 A B where
  priv : ∀ a o, a ∈ A.pv → A.H a = some o → a ∈ B.pv ∧ B.H a = some o
theorem Ext0.refl (A : Sit) : Ext0 A A := ⟨⟨⟨[], by simp⟩, fun _ _ h n => ⟨h, n⟩, fun _ _ h => h⟩, fun _ _ _ h => h⟩
theorem Ext.refl (A : Sit) : Ext A A := ⟨.refl A, fun _ _ h e => ⟨h, e⟩⟩
theorem Ext0.trans {A B C : Sit} (x : Ext0 A B) (y : Ext0 B C) : Ext0 A C := by
  obtain ⟨l, hl⟩ := x.pre
  obtain ⟨l', hl'⟩ := y.pre
  refine ⟨⟨⟨l ++ l', by rw [hl', hl, List.append_assoc]⟩, fun a o h n => ?_, fun a xs h => y.tups a xs (x.tups a xs h)⟩, fun a o u h => y.frzs a o u (x.frzs a o u h)⟩
  obtain ⟨h1, n1⟩ := x.keep a o h n
  exact y.keep a o h1 n1
theorem Ext.trans {A B C : Sit} (x : Ext A B) (y : Ext B C) : Ext A C :=
  ⟨x.toExt0.trans y.toExt0, fun a o h e => let ⟨h1, e1⟩ := x.priv a o h e; y.priv a o h1 e1⟩
theorem ExtR.ix {A B : Sit} (x : ExtR A B) {n : Nat} {a : Addr} (h : A.m[n]? = some a) : B.m[n]? = some a := by
  obtain ⟨l, hl⟩ := x.pre
  rw [hl, List.getElem?_append_left (List.getElem?_eq_some_iff.mp h).1]
  exact h
theorem TAt.ext {A B : Sit} {a : Addr} {vs : List V} (x : ExtR A B) (h : TAt A a vs) : TAt B a vs := by
  exact x.tups a vs h
theorem LAt.ext {A B : Sit} {a : Addr} {vs : List V} (x : ExtR A B) (h : LAt A a vs) : LAt B a vs := x.keep _ _ h.1 h.2
theorem SAt.ext {K : Frag} {A B : Sit} {a : Addr} {vs : List V} (x : ExtR A B) (h : SAt K A a vs) : SAt K B a vs := by
  rcases h with ⟨o, h, f⟩ | h
  · exact .inl ⟨o, x.keep _ _ h f⟩
  · exact .inr h
theorem DAt.ext {A B : Sit} {a : Addr} {ks : List Key} {vs : List V} (x : ExtR A B) (h : DAt A a ks vs) : DAt B a ks vs := x.keep _ _ h.1 h.2
section
variable {K : Frag} {w : World} {A B : Sit}
mutual
theorem RV.extR (x : ExtR A B) : ∀ {v : V} {d : D}, RV K w A v d → RV K w B v d
  | _, _, .non => .non
  | _, _, .bl b => .bl b
  | _, _, .int i => .int i
  | _, _, .str z h => .str z h
  | _, _, .tup h r => .tup (h.ext x) (RVs.extR x r)
  | _, _, .con h r => .con h (RVs.extR x r)
  | _, _, .scr h r => .scr (h.ext x) (RVs.extR x r)
  | _, _, .lst h r => .lst (h.ext x) (RVs.extR x r)
  | _, _, .dct h hl r => .dct (h.ext x) hl (RVs.extR x r)
  | _, _, .cdc h hl r => .cdc h hl (RVs.extR x r)
  | _, _, .ref h => .ref (x.ix h)
theorem RVs.extR (x : ExtR A B) : ∀ {vs : List V} {ds : List D}, RVs K w A vs ds → RVs K w B vs ds
  | _, _, .nil => .nil
  | _, _, .cons h r => .cons (RV.extR x h) (RVs.extR x r)
end
theorem RV.ext0 (x : Ext0 A B) {v : V} {d : D} (h : RV K w A v d) : RV K w B v d := h.extR x.toExtR
theorem RVs.ext0 (x : Ext0 A B) {vs : List V} {ds : List D} (h : RVs K w A vs ds) : RVs K w B vs ds := h.extR x.toExtR
theorem RV.ext (x : Ext A B) {v : V} {d : D} (h : RV K w A v d) : RV K w B v d := h.ext0 x.toExt0
theorem RVs.ext (x : Ext A B) {vs : List V} {ds : List D} (h : RVs K w A vs ds) : RVs K w B vs ds := h.ext0 x.toExt0
theorem RVs.length : ∀ {vs : List V} {ds : List D}, RVs K w A vs ds → vs.length = ds.length
  | _, _, .nil => rfl
  | _, _, .cons _ r => by rw [List.length_cons, List.length_cons, RVs.length r]
theorem RVs.get : ∀ {vs : List V} {ds : List D} {i : Nat} {d : D}, RVs K w A vs ds → ds[i]? = some d → ∃ v, vs[i]? = some v ∧ RV K w A v d
  | _, _, _, _, .nil, e => by simp at e
  | _, _, 0, _, .cons h _, e => by simp at e; subst e; exact ⟨_, rfl, h⟩
  | _, _, i + 1, _, .cons _ r, e => by
    obtain ⟨v, h1, h2⟩ := RVs.get (i := i) r (by simpa using e)
    exact ⟨v, by simpa using h1, h2⟩
theorem RVs.getV : ∀ {vs : List V} {ds : List D} {i : Nat} {v : V}, RVs K w A vs ds → vs[i]? = some v → ∃ d, ds[i]? = some d ∧ RV K w A v d
  | _, _, _, _, .nil, e => by simp at e
  | _, _, 0, _, .cons h _, e => by simp at e; subst e; exact ⟨_, rfl, h⟩
  | _, _, i + 1, _, .cons _ r, e => by
    obtain ⟨v, h1, h2⟩ := RVs.getV (i := i) r (by simpa using e)
    exact ⟨v, by simpa using h1, h2⟩
theorem RVs.append : ∀ {vs us : List V} {ds es : List D}, RVs K w A vs ds → RVs K w A us es → RVs K w A (vs ++ us) (ds ++ es)
  | _, _, _, _, .nil, s => s
  | _, _, _, _, .cons h r, s => .cons h (RVs.append r s)
theorem RVs.drop : ∀ {vs : List V} {ds : List D} (n : Nat), RVs K w A vs ds → RVs K w A (vs.drop n) (ds.drop n)
  | _, _, 0, r => r
  | _, _, _ + 1, .nil => .nil
  | _, _, n + 1, .cons _ r => RVs.drop n r
theorem RVs.take : ∀ {vs : List V} {ds : List D} (n : Nat), RVs K w A vs ds → RVs K w A (vs.take n) (ds.take n)
  | _, _, 0, _ => .nil
  | _, _, _ + 1, .nil => .nil
  | _, _, n + 1, .cons h r => .cons h (RVs.take n r)
theorem RVs.reverse : ∀ {vs : List V} {ds : List D}, RVs K w A vs ds → RVs K w A vs.reverse ds.reverse
  | _, _, .nil => .nil
  | _, _, .cons h r => by
    rw [List.reverse_cons, List.reverse_cons]
    exact (RVs.reverse r).append (.cons h .nil)
theorem RVs.set {v : V} {d : D} (h : RV K w A v d) : ∀ {vs : List V} {ds : List D} (i : Nat), RVs K w A vs ds → RVs K w A (vs.set i v) (ds.set i d)
  | _, _, _, .nil => .nil
  | _, _, 0, .cons _ r => .cons h r
  | _, _, i + 1, .cons q r => .cons q (RVs.set h i r)
theorem RVs.eraseIdx : ∀ {vs : List V} {ds : List D} (i : Nat), RVs K w A vs ds → RVs K w A (vs.eraseIdx i) (ds.eraseIdx i)
  | _, _, _, .nil => .nil
  | _, _, 0, .cons _ r => r
  | _, _, i + 1, .cons q r => .cons q (RVs.eraseIdx i r)
theorem RVs.dropLast {vs : List V} {ds : List D} (r : RVs K w A vs ds) : RVs K w A vs.dropLast ds.dropLast := by
  rw [List.dropLast_eq_take, List.dropLast_eq_take, r.length]
  exact r.take _
theorem RVs.rep {vs : List V} {ds : List D} (r : RVs K w A vs ds) : ∀ k : Nat, RVs K w A (List.replicate k vs).flatten (repl k ds)
  | 0 => .nil
  | k + 1 => by
    unfold repl
    rw [List.replicate_succ, List.replicate_succ, List.flatten_cons, List.flatten_cons]
    exact r.append (RVs.rep r k)
end

/-! ### the cells -/
/-- two lists of pairs: the same keys, values that stand for one another -/
inductive RKV (K : Frag) (w : World) (A : Sit) {κ : Type} : List (κ × V) → List (κ × D) → Prop
  | nil : RKV K w A [] []
  | cons {k : κ} {v : V} {d : D} {vs : List (κ × V)} {ds : List (κ × D)} (h : RV K w A v d) (r : RKV K w A vs ds) : RKV K w A ((k, v) :: vs) ((k, d) :: ds)
theorem RKV.extR {K : Frag} {w : World} {A B : Sit} {κ : Type} (x : ExtR A B) : ∀ {vs : List (κ × V)} {ds : List (κ × D)}, RKV K w A vs ds → RKV K w B vs ds
  | _, _, .nil => .nil
  | _, _, .cons h r => .cons (h.extR x) (RKV.extR x r)
theorem RKV.ext0 {K : Frag} {w : World} {A B : Sit} {κ : Type} (x : Ext0 A B) {vs : List (κ × V)} {ds : List (κ × D)} (h : RKV K w A vs ds) : RKV K w B vs ds := h.extR x.toExtR
theorem RKV.ext {K : Frag} {w : World} {A B : Sit} {κ : Type} (x : Ext A B) {vs : List (κ × V)} {ds : List (κ × D)} (h : RKV K w A vs ds) : RKV K w B vs ds := h.ext0 x.toExt0
theorem RKV.length {K : Frag} {w : World} {A : Sit} {κ : Type} : ∀ {vs : List (κ × V)} {ds : List (κ × D)}, RKV K w A vs ds → vs.length = ds.length
  | _, _, .nil => rfl
  | _, _, .cons _ r => by rw [List.length_cons, List.length_cons, RKV.length r]
def lockd (l : Bool) (o : Option HO) (u : HO) : Prop := if l then ∃ ob, o = some (.frz ob u) else o = some u
def CellOk (K : Frag) (w : World) (A : Sit) (a : Addr) : Cell → Prop
  | .lst ds => ∃ vs, A.H a = some (.lst vs) ∧ RVs K w A vs ds
  | .dK kvs l => ∃ kv, lockd l (A.H a) (.dK kv) ∧ RKV K w A kv kvs ∧ ∀ p ∈ kvs, okK p.1
  | .dT kvs l => ∃ kv, lockd l (A.H a) (.dT kv) ∧ RKV K w A kv kvs ∧ ∀ p ∈ kvs, ∀ k ∈ p.1, okK k
  | .dead => True
structure Rp (K : Frag) (w : World) (A : Sit) : Prop where
  len : A.m.length = A.S.length
  inj : ∀ (i j : Nat) (a : Addr) (c c' : Cell), A.m[i]? = some a → A.m[j]? = some a → A.S[i]? = some c → A.S[j]? = some c' → c ≠ .dead → c' ≠ .dead → i = j
  pvn : ∀ a ∈ A.pv, NL A a
  pvs : ∀ a ∈ A.pv, ∃ o, A.H a = some o
  cell : ∀ (i : Nat) (a : Addr) (c : Cell), A.m[i]? = some a → A.S[i]? = some c → CellOk K w A a c

theorem Rp.at_ {K : Frag} {w : World} {A : Sit} (R : Rp K w A) {i : Nat} {c : Cell} (h : A.S[i]? = some c) : ∃ a, A.m[i]? = some a ∧ CellOk K w A a c := by
  have hl := (List.getElem?_eq_some_iff.mp h).1
  rw [← R.len] at hl
  exact ⟨A.m[i], List.getElem?_eq_getElem hl, R.cell i _ c (List.getElem?_eq_getElem hl) h⟩
theorem CellOk.ext {K : Frag} {w : World} {A B : Sit} {a : Addr} {c : Cell} (x : ExtR A B) (hH : B.H a = A.H a) (h : CellOk K w A a c) : CellOk K w B a c := by
  cases c with
  | lst ds =>
    obtain ⟨vs, h1, h2⟩ := h
    exact ⟨vs, hH.trans h1, h2.extR x⟩
  | dK kvs l =>
    obtain ⟨kv, h1, h2, h3⟩ := h
    exact ⟨kv, by rw [hH]; exact h1, h2.extR x, h3⟩
  | dT kvs l =>
    obtain ⟨kv, h1, h2, h3⟩ := h
    exact ⟨kv, by rw [hH]; exact h1, h2.extR x, h3⟩
  | dead => trivial
theorem CellOk.ob {K : Frag} {w : World} {A : Sit} {a : Addr} {c : Cell} (h : CellOk K w A a c) (n : c ≠ .dead) : ∃ o, A.H a = some o ∧ ∀ xs, o ≠ .tup xs := by
  cases c with
  | lst ds =>
    obtain ⟨vs, h1, _⟩ := h
    exact ⟨_, h1, fun _ z => nomatch z⟩
  | dK kvs l =>
    obtain ⟨kv, h1, _⟩ := h
    unfold lockd at h1
    split at h1
    · obtain ⟨ob, h1⟩ := h1
      exact ⟨_, h1, fun _ z => nomatch z⟩
    · exact ⟨_, h1, fun _ z => nomatch z⟩
  | dT kvs l =>
    obtain ⟨kv, h1, _⟩ := h
    unfold lockd at h1
    split at h1
    · obtain ⟨ob, h1⟩ := h1
      exact ⟨_, h1, fun _ z => nomatch z⟩
    · exact ⟨_, h1, fun _ z => nomatch z⟩
  | dead => exact absurd rfl n

/-! ### a new object, a new cell, a changed cell -/
section
variable {K : Frag} {w : World} {A : Sit} {p : Addr} {o : HO}
/-- a new object at p that no cell is -/
def Sit.new (A : Sit) (p : Addr) (o : HO) : Sit := { A with H := upd A.H p o }
theorem nl_new {a : Addr} : NL (A.new p o) a ↔ NL A a := Iff.rfl
theorem Rp.nlp (R : Rp K w A) (hp : A.H p = none) : NL A p := fun i c hi hc => by
  by_cases hd : c = .dead
  · exact hd
  · obtain ⟨u, hu, _⟩ := (R.cell i p c hi hc).ob hd
    rw [hp] at hu
    cases hu
theorem ext_new (hp : A.H p = none) : Ext A (A.new p o) := by
  refine ⟨⟨⟨⟨[], by simp [Sit.new]⟩, fun a u h n => ⟨?_, n⟩, fun a xs h => ?_⟩, fun a o u h => ?_⟩, fun a u m h => ⟨m, ?_⟩⟩
  · exact (upd_ne (ne_of_none h hp)).trans h
  · exact (upd_ne (ne_of_none h hp)).trans h
  · exact (upd_ne (ne_of_none h hp)).trans h
  · exact (upd_ne (ne_of_none h hp)).trans h
theorem Rp.npv (R : Rp K w A) (hp : A.H p = none) : p ∉ A.pv := fun h => by
  obtain ⟨o, e⟩ := R.pvs p h
  rw [hp] at e
  cases e
theorem upd_some {H : Hp} {a b : Addr} {u : HO} (h : ∃ v, H b = some v) : ∃ v, upd H a u b = some v := by
  by_cases e : b = a
  · subst e
    exact ⟨u, upd_same⟩
  · rw [upd_ne e]
    exact h
theorem rp_new (R : Rp K w A) (hp : A.H p = none) : Rp K w (A.new p o) := by
  refine ⟨R.len, R.inj, R.pvn, fun a h => upd_some (R.pvs a h), fun i a c hi hc => ?_⟩
  have h := R.cell i a c hi hc
  by_cases hd : c = .dead
  · subst hd; trivial
  · obtain ⟨u, hu, _⟩ := h.ob hd
    exact h.ext (ext_new hp).toExtR (upd_ne (ne_of_none hu hp))
theorem fz_new (R : Rp K w A) (hp : A.H p = none) : Fz (A.new p o) p := ⟨R.npv hp, R.nlp hp⟩
/-- a new cell at p -/
def Sit.cell (A : Sit) (p : Addr) (o : HO) (c : Cell) : Sit := { pv := A.pv, m := A.m ++ [p], S := A.S ++ [c], H := upd A.H p o }
theorem getElem?_snoc {α : Type} {l : List α} {x y : α} {i : Nat} (h : (l ++ [x])[i]? = some y) : l[i]? = some y ∨ (i = l.length ∧ y = x) := by
  by_cases hi : i < l.length
  · rw [List.getElem?_append_left hi] at h
    exact .inl h
  · rw [List.getElem?_append_right (by omega)] at h
    by_cases e : i - l.length = 0
    · rw [e] at h
      simp at h
      exact .inr ⟨by omega, h.symm⟩
    · have := (List.getElem?_eq_some_iff.mp h).1
      simp at this
      omega
theorem ext_cell (R : Rp K w A) (hp : A.H p = none) {c : Cell} : Ext A (A.cell p o c) := by
  refine ⟨⟨⟨⟨[p], rfl⟩, fun a u h n => ⟨(upd_ne (ne_of_none h hp)).trans h, n.1, fun i c' hi hc => ?_⟩, fun a xs h => (upd_ne (ne_of_none h hp)).trans h⟩, fun a o u h => (upd_ne (ne_of_none h hp)).trans h⟩, fun a u m h => ⟨m, (upd_ne (ne_of_none h hp)).trans h⟩⟩
  have hi' : (A.m ++ [p])[i]? = some a := hi
  have hc' : (A.S ++ [c])[i]? = some c' := hc
  rcases getElem?_snoc hi' with h1 | ⟨e1, e2⟩
  · rcases getElem?_snoc hc' with h2 | ⟨e2, _⟩
    · exact n.2 i c' h1 h2
    · have := (List.getElem?_eq_some_iff.mp h1).1
      rw [R.len] at this
      omega
  · subst e2
    rw [hp] at h
    cases h
theorem rp_cell (R : Rp K w A) (hp : A.H p = none) {c : Cell} (ok : CellOk K w (A.cell p o c) p c) : Rp K w (A.cell p o c) := by
  have hlen := R.len
  have hne : ∀ (i : Nat) (a : Addr) (c' : Cell), A.m[i]? = some a → A.S[i]? = some c' → c' ≠ .dead → a ≠ p := fun i a c' hi hc hd => by
    obtain ⟨u, hu, _⟩ := (R.cell i a c' hi hc).ob hd
    exact ne_of_none hu hp
  have two : ∀ {i : Nat} {a : Addr} {c' : Cell}, (A.m ++ [p])[i]? = some a → (A.S ++ [c])[i]? = some c' → (A.m[i]? = some a ∧ A.S[i]? = some c') ∨ (i = A.m.length ∧ a = p ∧ c' = c) := fun {i a c'} hi hc => by
    rcases getElem?_snoc hi with h1 | ⟨e1, e2⟩
    · rcases getElem?_snoc hc with h2 | ⟨e2, _⟩
      · exact .inl ⟨h1, h2⟩
      · have := (List.getElem?_eq_some_iff.mp h1).1
        omega
    · rcases getElem?_snoc hc with h2 | ⟨_, e3⟩
      · have := (List.getElem?_eq_some_iff.mp h2).1
        omega
      · exact .inr ⟨e1, e2, e3⟩
  refine ⟨by simp [Sit.cell, hlen], fun i j a c1 c2 hi hj h1 h2 d1 d2 => ?_, fun a ha i c' hi hc => ?_, fun a h => upd_some (R.pvs a h), fun i a c' hi hc => ?_⟩
  · rcases two hi h1 with ⟨a1, b1⟩ | ⟨a1, b1, _⟩
    · rcases two hj h2 with ⟨a2, b2⟩ | ⟨a2, b2, _⟩
      · exact R.inj i j a c1 c2 a1 a2 b1 b2 d1 d2
      · subst b2
        exact absurd rfl (hne i _ c1 a1 b1 d1)
    · rcases two hj h2 with ⟨a2, b2⟩ | ⟨a2, b2, _⟩
      · subst b1
        exact absurd rfl (hne j _ c2 a2 b2 d2)
      · rw [a1, a2]
  · rcases two hi hc with ⟨a1, b1⟩ | ⟨a1, b1, _⟩
    · exact R.pvn a ha i c' a1 b1
    · subst b1
      exact absurd ha (R.npv hp)
  · rcases two hi hc with ⟨a1, b1⟩ | ⟨a1, b1, e⟩
    · have h := R.cell i a c' a1 b1
      by_cases hd : c' = .dead
      · subst hd; trivial
      · obtain ⟨u, hu, _⟩ := h.ob hd
        exact h.ext (ext_cell R hp).toExtR (upd_ne (ne_of_none hu hp))
    · subst b1 e
      exact ok
/-- a cell that may be written -/
def _root_.Cl.Cell.free : Cell → Bool
  | .lst _ => true
  | .dK _ l => !l
  | .dT _ l => !l
  | .dead => false
theorem CellOk.nofrz {a : Addr} {c : Cell} (h : CellOk K w A a c) (f : c.free = true) : ∃ o, A.H a = some o ∧ (∀ xs, o ≠ .tup xs) ∧ ∀ ob u, o ≠ .frz ob u := by
  cases c with
  | lst ds =>
    obtain ⟨vs, h1, _⟩ := h
    exact ⟨_, h1, (fun _ z => nomatch z), (fun _ _ z => nomatch z)⟩
  | dK kvs l =>
    obtain ⟨kv, h1, _⟩ := h
    cases l with
    | true => cases f
    | false => exact ⟨_, h1, (fun _ z => nomatch z), (fun _ _ z => nomatch z)⟩
  | dT kvs l =>
    obtain ⟨kv, h1, _⟩ := h
    cases l with
    | true => cases f
    | false => exact ⟨_, h1, (fun _ z => nomatch z), (fun _ _ z => nomatch z)⟩
  | dead => cases f
theorem free_ne {c : Cell} (f : c.free = true) : c ≠ .dead := fun z => by subst z; cases f
/-- the cell i, at a, is changed -/
def Sit.put (A : Sit) (i : Nat) (a : Addr) (o : HO) (c : Cell) : Sit := { A with S := A.S.set i c, H := upd A.H a o }
theorem set_get {α : Type} {l : List α} {i j : Nat} {x y : α} (h : (l.set i x)[j]? = some y) : (j = i ∧ y = x) ∨ (j ≠ i ∧ l[j]? = some y) := by
  by_cases e : i = j
  · subst e
    by_cases hl : i < l.length
    · rw [List.getElem?_set_self hl] at h
      exact .inl ⟨rfl, (Option.some.inj h).symm⟩
    · rw [List.getElem?_eq_none (by rw [List.length_set]; omega)] at h
      cases h
  · rw [List.getElem?_set_ne e] at h
    exact .inr ⟨fun z => e z.symm, h⟩
theorem ext_put (R : Rp K w A) {i : Nat} {a : Addr} {c c' : Cell} (hi : A.m[i]? = some a) (hc : A.S[i]? = some c) (hf : c.free = true) : Ext A (A.put i a o c') := by
  have hd := free_ne hf
  obtain ⟨u, hu, ht, hz⟩ := (R.cell i a c hi hc).nofrz hf
  refine ⟨⟨⟨⟨[], by simp [Sit.put]⟩, fun b v h n => ?_, fun b xs h => ?_⟩, fun b ob v h => ?_⟩, fun b v m h => ⟨m, ?_⟩⟩
  · have hb : b ≠ a := fun e => by
      subst e
      exact hd (n.2 i c hi hc)
    refine ⟨(upd_ne hb).trans h, n.1, fun j cj hj hcj => ?_⟩
    rcases set_get hcj with ⟨e, _⟩ | ⟨_, h2⟩
    · subst e
      have hj' : A.m[j]? = some b := hj
      rw [hi] at hj'
      exact absurd (Option.some.inj hj').symm hb
    · exact n.2 j cj hj h2
  · have hb : b ≠ a := fun e => by
      subst e
      rw [hu] at h
      exact ht xs (Option.some.inj h)
    exact (upd_ne hb).trans h
  · have hb : b ≠ a := fun e => by
      subst e
      rw [hu] at h
      exact hz ob v (Option.some.inj h)
    exact (upd_ne hb).trans h
  · have hb : b ≠ a := fun e => by
      subst e
      exact hd (R.pvn b m i c hi hc)
    exact (upd_ne hb).trans h
theorem rp_put (R : Rp K w A) {i : Nat} {a : Addr} {c c' : Cell} (hi : A.m[i]? = some a) (hc : A.S[i]? = some c) (hf : c.free = true) (ok : CellOk K w (A.put i a o c') a c') : Rp K w (A.put i a o c') := by
  have hd := free_ne hf
  refine ⟨by simp [Sit.put, R.len], fun j k b c1 c2 hj hk h1 h2 d1 d2 => ?_, fun b hb j cj hj hcj => ?_, fun b h => upd_some (R.pvs b h), fun j b cj hj hcj => ?_⟩
  · have key : ∀ {j : Nat} {cj : Cell}, A.m[j]? = some b → (A.S.set i c')[j]? = some cj → cj ≠ .dead → ∃ cj', A.S[j]? = some cj' ∧ cj' ≠ .dead := fun {j cj} hj h d => by
      rcases set_get h with ⟨e, _⟩ | ⟨_, h2⟩
      · subst e
        exact ⟨c, hc, hd⟩
      · exact ⟨cj, h2, d⟩
    obtain ⟨e1, x1, y1⟩ := key hj h1 d1
    obtain ⟨e2, x2, y2⟩ := key hk h2 d2
    exact R.inj j k b e1 e2 hj hk x1 x2 y1 y2
  · rcases set_get hcj with ⟨e, _⟩ | ⟨_, h2⟩
    · subst e
      have hj' : A.m[j]? = some b := hj
      exact absurd (R.pvn b hb j c hj' hc) hd
    · exact R.pvn b hb j cj hj h2
  · rcases set_get hcj with ⟨e, e2⟩ | ⟨ne, h2⟩
    · subst e e2
      have hj' : A.m[j]? = some b := hj
      rw [hi] at hj'
      cases hj'
      exact ok
    · have h := R.cell j b cj hj h2
      by_cases hd2 : cj = .dead
      · subst hd2; trivial
      · have hb : b ≠ a := fun e => by
          subst e
          exact ne (R.inj j i b cj c hj hi h2 hc hd2 hd)
        exact h.ext (ext_put R hi hc hf).toExtR (upd_ne hb)
end

/-! ### an object in the making -/
section
variable {K : Frag} {w : World} {A B : Sit} {p : Addr} {o o' : HO}
/-- a new object at p that nothing may name yet -/
def Sit.priv (A : Sit) (p : Addr) (o : HO) : Sit := { A with pv := p :: A.pv, H := upd A.H p o }
theorem ext_priv (hp : A.H p = none) : Ext A (A.priv p o) :=
  ⟨⟨⟨⟨[], by simp [Sit.priv]⟩, fun a u h n => ⟨(upd_ne (ne_of_none h hp)).trans h, fun m => by
      rcases List.mem_cons.mp m with e | m
      · exact ne_of_none h hp e
      · exact n.1 m, n.2⟩, fun a xs h => (upd_ne (ne_of_none h hp)).trans h⟩, fun a o u h => (upd_ne (ne_of_none h hp)).trans h⟩,
    fun a u m h => ⟨List.mem_cons_of_mem _ m, (upd_ne (ne_of_none h hp)).trans h⟩⟩
theorem rp_priv (R : Rp K w A) (hp : A.H p = none) : Rp K w (A.priv p o) := by
  refine ⟨R.len, R.inj, fun a m => ?_, fun a m => ?_, fun i a c hi hc => ?_⟩
  · rcases List.mem_cons.mp m with e | m
    · rw [e]; exact R.nlp hp
    · exact R.pvn a m
  · rcases List.mem_cons.mp m with e | m
    · rw [e]; exact ⟨o, upd_same⟩
    · exact upd_some (R.pvs a m)
  · have h := R.cell i a c hi hc
    by_cases hd : c = .dead
    · subst hd; trivial
    · obtain ⟨u, hu, _⟩ := h.ob hd
      exact h.ext (ext_priv hp).toExtR (upd_ne (ne_of_none hu hp))
/-- what stands at p may be changed -/
def Soft (o : HO) : Prop := (∀ xs, o ≠ .tup xs) ∧ ∀ ob u, o ≠ .frz ob u
/-- the private object at p changes -/
def Sit.pset (B : Sit) (p : Addr) (o : HO) : Sit := { B with H := upd B.H p o }
theorem ext0_pset (m : p ∈ B.pv) (h : B.H p = some o) (s : Soft o) : Ext0 B (B.pset p o') := by
  refine ⟨⟨⟨[], by simp [Sit.pset]⟩, fun a u e n => ⟨(upd_ne fun z => n.1 (by rw [z]; exact m)).trans e, n⟩, fun a xs e => (upd_ne fun z => ?_).trans e⟩, fun a ob u e => (upd_ne fun z => ?_).trans e⟩
  · rw [z, h] at e
    exact s.1 xs (Option.some.inj e)
  · rw [z, h] at e
    exact s.2 ob u (Option.some.inj e)
/-- seen from where p was not yet -/
theorem ext_pset (x : Ext A B) (hp : A.H p = none) (m : p ∈ B.pv) (h : B.H p = some o) (s : Soft o) : Ext A (B.pset p o') :=
  ⟨x.toExt0.trans (ext0_pset m h s), fun a u ma e => let ⟨m1, e1⟩ := x.priv a u ma e; ⟨m1, (upd_ne (ne_of_none e hp)).trans e1⟩⟩
theorem rp_pset (R : Rp K w B) (m : p ∈ B.pv) (h : B.H p = some o) (s : Soft o) : Rp K w (B.pset p o') := by
  refine ⟨R.len, R.inj, R.pvn, fun a q => upd_some (R.pvs a q), fun i a c hi hc => ?_⟩
  have q := R.cell i a c hi hc
  by_cases hd : c = .dead
  · subst hd; trivial
  · exact q.ext (ext0_pset m h s).toExtR (upd_ne fun e => hd (R.pvn p m i c (by rw [← e]; exact hi) hc))
/-- p is private no more -/
def Sit.open_ (B : Sit) (p : Addr) : Sit := { B with pv := B.pv.filter fun a => decide (a ≠ p) }
theorem mem_open {a : Addr} : a ∈ (B.open_ p).pv ↔ a ∈ B.pv ∧ a ≠ p := by simp [Sit.open_]
theorem ext0_open : Ext0 B (B.open_ p) := ⟨⟨⟨[], by simp [Sit.open_]⟩, fun a u e n => ⟨e, fun m => n.1 (mem_open.mp m).1, n.2⟩, fun _ _ e => e⟩, fun _ _ _ e => e⟩
theorem ext_open (x : Ext A B) (hp : A.H p = none) : Ext A (B.open_ p) :=
  ⟨x.toExt0.trans ext0_open, fun a u ma e => let ⟨m1, e1⟩ := x.priv a u ma e; ⟨mem_open.mpr ⟨m1, ne_of_none e hp⟩, e1⟩⟩
theorem rp_open (R : Rp K w B) : Rp K w (B.open_ p) := by
  refine ⟨R.len, R.inj, fun a m => R.pvn a (mem_open.mp m).1, fun a m => R.pvs a (mem_open.mp m).1, fun i a c hi hc => ?_⟩
  exact (R.cell i a c hi hc).ext ext0_open.toExtR rfl
theorem fz_open (R : Rp K w B) (m : p ∈ B.pv) : Fz (B.open_ p) p := ⟨fun q => (mem_open.mp q).2 rfl, R.pvn p m⟩
/-- p is a cell from now on -/
def Sit.opcell (B : Sit) (p : Addr) (c : Cell) : Sit := { pv := B.pv.filter fun a => decide (a ≠ p), m := B.m ++ [p], S := B.S ++ [c], H := B.H }
theorem ext0_opcell (R : Rp K w B) (m : p ∈ B.pv) {c : Cell} : Ext0 B (B.opcell p c) := by
  refine ⟨⟨⟨[p], rfl⟩, fun a u e n => ⟨e, fun q => n.1 (by have := List.mem_filter.mp q; exact this.1), fun i c' hi hc => ?_⟩, fun _ _ e => e⟩, fun _ _ _ e => e⟩
  have hi' : (B.m ++ [p])[i]? = some a := hi
  have hc' : (B.S ++ [c])[i]? = some c' := hc
  rcases getElem?_snoc hi' with h1 | ⟨e1, e2⟩
  · rcases getElem?_snoc hc' with h2 | ⟨e2, _⟩
    · exact n.2 i c' h1 h2
    · have := (List.getElem?_eq_some_iff.mp h1).1
      rw [R.len] at this
      omega
  · subst e2
    exact absurd m n.1
theorem ext_opcell (x : Ext A B) (hp : A.H p = none) (R : Rp K w B) (m : p ∈ B.pv) {c : Cell} : Ext A (B.opcell p c) :=
  ⟨x.toExt0.trans (ext0_opcell R m), fun a u ma e => let ⟨m1, e1⟩ := x.priv a u ma e; ⟨List.mem_filter.mpr ⟨m1, by simp [ne_of_none e hp]⟩, e1⟩⟩
theorem rp_opcell (R : Rp K w B) (m : p ∈ B.pv) {c : Cell} (ok : CellOk K w (B.opcell p c) p c) : Rp K w (B.opcell p c) := by
  have hlen := R.len
  have two : ∀ {i : Nat} {a : Addr} {c' : Cell}, (B.m ++ [p])[i]? = some a → (B.S ++ [c])[i]? = some c' → (B.m[i]? = some a ∧ B.S[i]? = some c') ∨ (i = B.m.length ∧ a = p ∧ c' = c) := fun {i a c'} hi hc => by
    rcases getElem?_snoc hi with h1 | ⟨e1, e2⟩ <;> rcases getElem?_snoc hc with h2 | ⟨e3, e4⟩
    · exact .inl ⟨h1, h2⟩
    · have := (List.getElem?_eq_some_iff.mp h1).1
      omega
    · have := (List.getElem?_eq_some_iff.mp h2).1
      omega
    · exact .inr ⟨e1, e2, e4⟩
  refine ⟨by simp [Sit.opcell, hlen], fun i j a c1 c2 hi hj h1 h2 d1 d2 => ?_, fun a ha i c' hi hc => ?_, fun a h => R.pvs a (List.mem_filter.mp h).1, fun i a c' hi hc => ?_⟩
  · rcases two hi h1 with ⟨a1, b1⟩ | ⟨a1, b1, _⟩ <;> rcases two hj h2 with ⟨a2, b2⟩ | ⟨a2, b2, _⟩
    · exact R.inj i j a c1 c2 a1 a2 b1 b2 d1 d2
    · subst b2
      exact absurd (R.pvn _ m i c1 a1 b1) d1
    · subst b1
      exact absurd (R.pvn _ m j c2 a2 b2) d2
    · rw [a1, a2]
  · obtain ⟨m1, n1⟩ := List.mem_filter.mp ha
    rcases two hi hc with ⟨a1, b1⟩ | ⟨a1, b1, _⟩
    · exact R.pvn a m1 i c' a1 b1
    · subst b1
      simp at n1
  · rcases two hi hc with ⟨a1, b1⟩ | ⟨a1, b1, e⟩
    · exact (R.cell i a c' a1 b1).ext (ext0_opcell R m).toExtR rfl
    · subst b1 e
      exact ok
end

/-! ### a dict that was locked is unlocked -/
section
variable {K : Frag} {w : World} {A B : Sit} {o : HO}
theorem ext_unl (R : Rp K w A) {n : Nat} {a : Addr} {c c2 : Cell} (hi : A.m[n]? = some a) (hc : A.S[n]? = some c) (hf : c.free = true) (x : Ext A B) : Ext A (B.put n a o c2) := by
  have hd := free_ne hf
  obtain ⟨u, hu, ht, hz⟩ := (R.cell n a c hi hc).nofrz hf
  have hB := x.ix hi
  refine ⟨⟨⟨x.pre, fun b v h q => ?_, fun b xs h => ?_⟩, fun b ob v h => ?_⟩, fun b v m h => ?_⟩
  · have hb : b ≠ a := fun e => by
      subst e
      exact hd (q.2 n c hi hc)
    obtain ⟨h1, q1⟩ := x.keep b v h q
    refine ⟨(upd_ne hb).trans h1, q1.1, fun j cj hj hcj => ?_⟩
    rcases set_get hcj with ⟨e, _⟩ | ⟨_, h2⟩
    · subst e
      have hj' : B.m[j]? = some b := hj
      rw [hB] at hj'
      exact absurd (Option.some.inj hj').symm hb
    · exact q1.2 j cj hj h2
  · refine (upd_ne fun e => ?_).trans (x.tups b xs h)
    subst e
    rw [hu] at h
    exact ht xs (Option.some.inj h)
  · refine (upd_ne fun e => ?_).trans (x.frzs b ob v h)
    subst e
    rw [hu] at h
    exact hz ob v (Option.some.inj h)
  · obtain ⟨m1, h1⟩ := x.priv b v m h
    refine ⟨m1, (upd_ne fun e => ?_).trans h1⟩
    subst e
    exact hd (R.pvn b m n c hi hc)
theorem rp_unl (R : Rp K w B) {n : Nat} {a : Addr} {c cn : Cell} (hi : B.m[n]? = some a) (hc : B.S[n]? = some c) (hd : c ≠ .dead) (nt : ∀ xs, B.H a ≠ some (.tup xs)) (ok : CellOk K w (B.put n a o cn) a cn) : Rp K w (B.put n a o cn) := by
  have x : ExtR B (B.put n a o cn) := by
    refine ⟨⟨[], by simp [Sit.put]⟩, fun b v h q => ?_, fun b xs h => (upd_ne fun e => nt xs (by rw [← e]; exact h)).trans h⟩
    have hb : b ≠ a := fun e => by
      subst e
      exact hd (q.2 n c hi hc)
    refine ⟨(upd_ne hb).trans h, q.1, fun j cj hj hcj => ?_⟩
    rcases set_get hcj with ⟨e, _⟩ | ⟨_, h2⟩
    · subst e
      have hj' : B.m[j]? = some b := hj
      rw [hi] at hj'
      exact absurd (Option.some.inj hj').symm hb
    · exact q.2 j cj hj h2
  refine ⟨by simp [Sit.put, R.len], fun j k b c1 c2 hj hk h1 h2 d1 d2 => ?_, fun b hb j cj hj hcj => ?_, fun b h => upd_some (R.pvs b h), fun j b cj hj hcj => ?_⟩
  · have key : ∀ {j : Nat} {cj : Cell}, B.m[j]? = some b → (B.S.set n cn)[j]? = some cj → cj ≠ .dead → ∃ cj', B.S[j]? = some cj' ∧ cj' ≠ .dead := fun {j cj} hj h d => by
      rcases set_get h with ⟨e, _⟩ | ⟨_, h2⟩
      · subst e
        exact ⟨c, hc, hd⟩
      · exact ⟨cj, h2, d⟩
    obtain ⟨e1, x1, y1⟩ := key hj h1 d1
    obtain ⟨e2, x2, y2⟩ := key hk h2 d2
    exact R.inj j k b e1 e2 hj hk x1 x2 y1 y2
  · rcases set_get hcj with ⟨e, _⟩ | ⟨_, h2⟩
    · subst e
      have hj' : B.m[j]? = some b := hj
      exact absurd (R.pvn b hb j c hj' hc) hd
    · exact R.pvn b hb j cj hj h2
  · rcases set_get hcj with ⟨e, e2⟩ | ⟨ne, h2⟩
    · subst e e2
      have hj' : B.m[j]? = some b := hj
      rw [hi] at hj'
      cases hj'
      exact ok
    · have h := R.cell j b cj hj h2
      by_cases hd2 : cj = .dead
      · subst hd2; trivial
      · have hb : b ≠ a := fun e => by
          subst e
          exact ne (R.inj j n b cj c hj hi h2 hc hd2 hd)
        exact h.ext x (upd_ne hb)
end

/-! ### the names -/
def EnvR (K : Frag) (w : World) (A : Sit) (σ : St) (ρ : Env) : Prop := σ.length = ρ.length ∧ ∀ (i : Nat) (d : D), ρ[i]? = some (some d) → ∃ v, σ[i]? = some (some v) ∧ RV K w A v d
theorem EnvR.ext {K : Frag} {w : World} {A B : Sit} {σ : St} {ρ : Env} (x : Ext A B) (h : EnvR K w A σ ρ) : EnvR K w B σ ρ :=
  ⟨h.1, fun i d e => let ⟨v, h1, h2⟩ := h.2 i d e; ⟨v, h1, h2.ext x⟩⟩
theorem EnvR.set {K : Frag} {w : World} {A : Sit} {σ : St} {ρ : Env} (h : EnvR K w A σ ρ) {v : V} {d : D} (r : RV K w A v d) (i : Nat) : EnvR K w A (σ.set i (some v)) (ρ.set i (some d)) := by
  refine ⟨by rw [List.length_set, List.length_set]; exact h.1, fun j e he => ?_⟩
  rcases set_get he with ⟨rfl, e2⟩ | ⟨ne, h2⟩
  · cases e2
    have hl := (List.getElem?_eq_some_iff.mp he).1
    rw [List.length_set, ← h.1] at hl
    exact ⟨v, List.getElem?_set_self hl, r⟩
  · obtain ⟨u, h3, h4⟩ := h.2 j e h2
    exact ⟨u, by rw [List.getElem?_set_ne (fun z => ne z.symm)]; exact h3, h4⟩
theorem EnvR.unset {K : Frag} {w : World} {A : Sit} {σ : St} {ρ : Env} (h : EnvR K w A σ ρ) (i : Nat) : EnvR K w A (σ.set i none) (ρ.set i none) := by
  refine ⟨by rw [List.length_set, List.length_set]; exact h.1, fun j e he => ?_⟩
  rcases set_get he with ⟨_, e2⟩ | ⟨ne, h2⟩
  · cases e2
  · obtain ⟨u, h3, h4⟩ := h.2 j e h2
    exact ⟨u, by rw [List.getElem?_set_ne (fun z => ne z.symm)]; exact h3, h4⟩
theorem EnvR.wipe {K : Frag} {w : World} {A : Sit} {σ : St} {ρ : Env} (h : EnvR K w A σ ρ) : ∀ vs : List Nat, EnvR K w A (L2.wipe σ vs) (Cl.wipe ρ vs)
  | [] => h
  | v :: vs => by
    unfold L2.wipe Cl.wipe
    exact (EnvR.wipe h vs).unset v
end Cl

set_option linter.all false
set_option autoImplicit false
set_option maxRecDepth 100000
set_option maxHeartbeats 1000000
/-! Cl: operations by values. -/
namespace Cl
open PySem PySem.Spec PyProof.Rows L2

theorem line_eq : line = sizeLine := by rw [sizeLine_eq]; rfl

/-! ### texts -/
theorem okS.append {x y : Str} (hx : okS x) (hy : okS y) (h : x.length + y.length ≤ line) : okS (x ++ y) := by
  constructor
  · show (x.cps ++ y.cps).size ≤ line
    rw [Array.size_append]
    exact h
  · show (x.cps ++ y.cps).all _ = true
    rw [Array.all_append, hx.2, hy.2]
    rfl
theorem okS_list {l : List Nat} (h : l.length ≤ line) (hc : ∀ c ∈ l, c < 0x110000) : okS ⟨l.toArray⟩ := by
  constructor
  · show l.toArray.size ≤ line
    rw [List.size_toArray]
    exact h
  · show l.toArray.all _ = true
    rw [List.all_toArray, List.all_eq_true]
    exact fun c hm => decide_eq_true (hc c hm)
theorem okS.mem {x : Str} (h : okS x) : ∀ c ∈ x.cps.toList, c < 0x110000 := fun c hc => by
  have h2 := h.2
  rw [← Array.all_toList, List.all_eq_true] at h2
  exact of_decide_eq_true (h2 c hc)
theorem okS_sign {c : Nat} (h : c < 0x110000) : okS (sign c) := okS_list (l := [c]) (by show 1 ≤ line; unfold line; decide) fun d hd => by
  rw [List.mem_singleton] at hd
  rw [hd]
  exact h

/-! ### values as data -/
mutual
def toPy : D → PyData
  | .non => .none
  | .bl b => .bool b
  | .int i => .int i
  | .str x => .str x
  | .tup ds => .tuple (toPys ds)
  | .con ds => .tuple (toPys ds)
  | .lst ds => .list (toPys ds)
  | .scr _ => .dict []
  | .dct _ _ => .dict []
  | .cdc _ _ => .dict []
  | .ref _ => .dict []
def toPys : List D → List PyData
  | [] => []
  | d :: ds => toPy d :: toPys ds
end
mutual
theorem eqv_py : ∀ a b : D, eqv a b = (toPy a).eqv (toPy b)
  | a, b => by
    cases a <;> cases b <;> simp only [eqv, toPy, PyData.eqv] <;> first | rfl | exact eqvs_py _ _
theorem eqvs_py : ∀ a b : List D, eqvs a b = PyData.eqvAll (toPys a) (toPys b)
  | [], [] => by simp only [eqvs, toPys, PyData.eqvAll]
  | [], _ :: _ => by simp only [eqvs, toPys, PyData.eqvAll]
  | _ :: _, [] => by simp only [eqvs, toPys, PyData.eqvAll]
  | x :: xs, y :: ys => by simp only [eqvs, toPys, PyData.eqvAll]; rw [eqv_py x y, eqvs_py xs ys]
end
theorem toPys_map : ∀ ds : List D, toPys ds = ds.map toPy
  | [] => rfl
  | d :: ds => by simp only [toPys, List.map_cons, toPys_map ds]

section
variable {K : Frag} {w : World} {A : Sit}
theorem LAt.sq {a : Addr} {vs : List V} (h : LAt A a vs) : SqL K A.H a vs := .inl (.inl h.1)
mutual
theorem RV.dp : ∀ (n : Nat) {x : V} {d : D}, fit n d = true → RV K w A x d → Dp K A.H x (toPy d)
  | _, _, _, _, .non => .non
  | _, _, _, _, .bl b => .bl b
  | _, _, _, _, .int i => .int i
  | _, _, _, _, .str x _ => .str x
  | n, _, _, f, .tup h r => by
    cases n with
    | zero => simp [fit] at f
    | succ n => exact .tup (SqT.of h) (RVs.dp n (by simpa [fit] using f) r)
  | n, _, _, f, .con h r => by
    cases n with
    | zero => simp [fit] at f
    | succ n => exact .tup (h _) (RVs.dp n (by simpa [fit] using f) r)
  | n, _, _, f, .lst h r => by
    cases n with
    | zero => simp [fit] at f
    | succ n => exact .lst h.sq (RVs.dp n (by simpa [fit] using f) r)
  | n, _, _, f, .scr _ _ => by cases n <;> simp [fit] at f
  | n, _, _, f, .dct _ _ _ => by cases n <;> simp [fit] at f
  | n, _, _, f, .cdc _ _ _ => by cases n <;> simp [fit] at f
  | n, _, _, f, .ref _ => by cases n <;> simp [fit] at f
theorem RVs.dp : ∀ (n : Nat) {xs : List V} {ds : List D}, fits n ds = true → RVs K w A xs ds → DpAll K A.H xs (toPys ds)
  | _, _, _, _, .nil => .nil
  | n, _, _, f, .cons h r => by
    rw [fits, Bool.and_eq_true] at f
    exact .cons (RV.dp n f.1 h) (RVs.dp n f.2 r)
end
mutual
theorem RV.lay : ∀ (n : Nat) {x : V} {d : D}, fit n d = true → RV K w A x d → (toPy d).canLay0 = true ∧ (toPy d).depth ≤ n
  | n, _, _, _, .non => by simp [toPy, PyData.canLay0, PyData.depth]
  | n, _, _, _, .bl b => by simp [toPy, PyData.canLay0, PyData.depth]
  | n, _, _, _, .int i => by simp [toPy, PyData.canLay0, PyData.depth]
  | n, _, _, _, .str x h => by
    refine ⟨?_, by simp [toPy, PyData.depth]⟩
    rw [toPy, PyData.canLay0]
    exact h.2
  | n, _, _, f, .tup h r => by
    cases n with
    | zero => simp [fit] at f
    | succ n =>
      obtain ⟨h1, h2⟩ := RVs.lay n (by simpa [fit] using f) r
      exact ⟨by rw [toPy, PyData.canLay0]; exact h1, by rw [toPy, PyData.depth]; omega⟩
  | n, _, _, f, .con h r => by
    cases n with
    | zero => simp [fit] at f
    | succ n =>
      obtain ⟨h1, h2⟩ := RVs.lay n (by simpa [fit] using f) r
      exact ⟨by rw [toPy, PyData.canLay0]; exact h1, by rw [toPy, PyData.depth]; omega⟩
  | n, _, _, f, .lst h r => by
    cases n with
    | zero => simp [fit] at f
    | succ n =>
      obtain ⟨h1, h2⟩ := RVs.lay n (by simpa [fit] using f) r
      exact ⟨by rw [toPy, PyData.canLay0]; exact h1, by rw [toPy, PyData.depth]; omega⟩
  | n, _, _, f, .scr _ _ => by cases n <;> simp [fit] at f
  | n, _, _, f, .dct _ _ _ => by cases n <;> simp [fit] at f
  | n, _, _, f, .cdc _ _ _ => by cases n <;> simp [fit] at f
  | n, _, _, f, .ref _ => by cases n <;> simp [fit] at f
theorem RVs.lay : ∀ (n : Nat) {xs : List V} {ds : List D}, fits n ds = true → RVs K w A xs ds → PyData.canLayAll0 (toPys ds) = true ∧ PyData.depthAll (toPys ds) ≤ n
  | n, _, _, _, .nil => by simp [toPys, PyData.canLayAll0, PyData.depthAll]
  | n, _, _, f, .cons h r => by
    rw [fits, Bool.and_eq_true] at f
    obtain ⟨h1, h2⟩ := RV.lay n f.1 h
    obtain ⟨h3, h4⟩ := RVs.lay n f.2 r
    exact ⟨by rw [toPys, PyData.canLayAll0, h1, h3]; rfl, by rw [toPys, PyData.depthAll]; omega⟩
end
theorem RV.shaped {n : Nat} {x : V} {d : D} (hn : n ≤ 64) (f : fit n d = true) (h : RV K w A x d) : SeqAt.shaped (toPy d) = true := by
  obtain ⟨h1, h2⟩ := RV.lay n f h
  show ((toPy d).canLay0 && decide ((toPy d).depth ≤ 64)) = true
  rw [h1, decide_eq_true (by omega)]
  rfl

/-! ### reading a list, a tuple -/
theorem lstOf_rv (R : Rp K w A) {x : V} {d : D} {ds : List D} (h : RV K w A x d) (e : lstOf A.S d = some ds) : ∃ a vs, x = .ref a ∧ A.H a = some (.lst vs) ∧ RVs K w A vs ds := by
  cases h with
  | lst h r =>
    cases e
    exact ⟨_, _, rfl, h.1, r⟩
  | @ref a n h =>
    simp only [lstOf] at e
    split at e
    · rename_i ds' hc
      cases e
      obtain ⟨vs, h1, r⟩ := R.cell n a _ h hc
      exact ⟨_, _, rfl, h1, r⟩
    · cases e
  | _ => cases e
theorem seqOf_rv (R : Rp K w A) {x : V} {d : D} {ds : List D} (h : RV K w A x d) (e : seqOf A.S d = some ds) :
    ∃ a vs, x = .ref a ∧ (A.H a = some (.lst vs) ∨ A.H a = some (.tup vs) ∨ KT K a vs) ∧ RVs K w A vs ds := by
  cases h with
  | tup h r =>
    cases e
    exact ⟨_, _, rfl, .inr (.inl h), r⟩
  | con h r =>
    cases e
    exact ⟨_, _, rfl, .inr (.inr h), r⟩
  | lst h r =>
    cases e
    exact ⟨_, _, rfl, .inl h.1, r⟩
  | ref h =>
    obtain ⟨a, vs, h1, h2, h3⟩ := lstOf_rv R (.ref h) e
    exact ⟨a, vs, h1, .inl h2, h3⟩
  | _ => cases e
theorem sq_or {a : Addr} {vs : List V} (h : A.H a = some (.lst vs) ∨ A.H a = some (.tup vs) ∨ KT K a vs) : SqL K A.H a vs ∨ SqT K A.H a vs := by
  rcases h with h | h | h
  · exact .inl (SqL.of h)
  · exact .inr (SqT.of h)
  · exact .inr (h _)

/-! ### what is asked behind an operation -/
def Go (K : Frag) (w : World) (A : Sit) (r : Res D) (Q : VK) : Prop := match r with
  | .ok d S1 => ∀ (v : V) (B : Sit), Ext A B → Rp K w B → B.S = S1 → RV K w B v d → Q v B.H
  | .exc _ _ _ => True
  | .stuck => False
theorem go_val {Q : VK} {d : D} (R : Rp K w A) (h : Go K w A (.ok d A.S) Q) {v : V} (r : RV K w A v d) : Q v A.H := h v A (Ext.refl A) R rfl r
theorem go_tup {Q : VK} {ds : List D} {vs : List V} {p : Addr} (R : Rp K w A) (h : Go K w A (.ok (.tup ds) A.S) Q) (r : RVs K w A vs ds) (hp : A.H p = none) : Q (.ref p) (upd A.H p (.tup vs)) :=
  h (.ref p) (A.new p (.tup vs)) (ext_new hp) (rp_new R hp) rfl (.tup upd_same (r.ext (ext_new hp)))
theorem go_mk {Q : VK} {ds : List D} {vs : List V} {p : Addr} {nw : Bool} (R : Rp K w A) (h : Go K w A (mk nw ds A.S) Q) (r : RVs K w A vs ds) (hp : A.H p = none) : Q (.ref p) (upd A.H p (.lst vs)) := by
  cases nw with
  | false => exact h (.ref p) (A.new p (.lst vs)) (ext_new hp) (rp_new R hp) rfl (.lst ⟨upd_same, fz_new R hp⟩ (r.ext (ext_new hp)))
  | true =>
    refine h (.ref p) (A.cell p (.lst vs) (.lst ds)) (ext_cell R hp) (rp_cell R hp ⟨vs, upd_same, r.ext (ext_cell R hp)⟩) rfl (.ref ?_)
    rw [← R.len]
    exact getElem?_snoc_self
where getElem?_snoc_self {l : List Addr} {x : Addr} : (l ++ [x])[l.length]? = some x := by simp
end

/-- a two-place operation's reading -/
def r2g (X : Cx) (g : D → D → Store → Res D) : R2 := fun x y H Q => ∃ (A : Sit) (d e : D), A.H = H ∧ Rp X.K X.w A ∧ RV X.K X.w A x d ∧ RV X.K X.w A y e ∧ Go X.K X.w A (g d e A.S) Q

section
variable {X : Cx}
/-- the model's operator -/
def Bop.op : Bop → Operator
  | .add => .Add | .sub => .Sub | .mul => .Mult | .fdiv => .FloorDiv | .mod => .Mod | .pow => .Pow | .xor => .BitXor | .band => .BitAnd
theorem seq_add {nw : Bool} {pins : List (Addr × Obj)} {s : Shared} {σ : L2.St} {x y : V} {v u : Value} {Q : VK} {A : Sit} {d e : D} (I : Inv X pins σ A.H s) (rx : RelV x v) (ry : RelV y u) (R : Rp X.K X.w A) (hx : RV X.K X.w A x d) (hy : RV X.K X.w A y e)
    (h : Go X.K X.w A (match lstOf A.S d, lstOf A.S e with
      | some xs, some ys => if xs.length + ys.length ≤ line then mk nw (xs ++ ys) A.S else .stuck
      | _, _ => .stuck) Q) : wpAny (model X.prog X.w) X.A (binaryOp .Add v u) (EP X pins σ Q) X.xe s := by
  cases e1 : lstOf A.S d with
  | none => rw [e1] at h; exact h.elim
  | some ds =>
    cases e2 : lstOf A.S e with
    | none => rw [e1, e2] at h; exact h.elim
    | some es =>
      rw [e1, e2] at h
      obtain ⟨a, xs, rfl, ha, r1⟩ := lstOf_rv R hx e1
      obtain ⟨b, ys, rfl, hb, r2⟩ := lstOf_rv R hy e2
      by_cases hl : ds.length + es.length ≤ line
      · simp only [if_pos hl] at h
        exact op_cat pins s σ A.H _ _ v u Q I rx ry ⟨a, b, xs, ys, rfl, rfl, ha, hb, by rw [r1.length, r2.length, ← line_eq]; exact hl, fun p hp => go_mk R h (r1.append r2) hp⟩
      · simp only [if_neg hl] at h
        exact h.elim
theorem or_bin (nw : Bool) (op : Bop) : OpR X (binaryOp op.op) (r2g X (binop nw op)) := by
  intro pins s σ H x y v u Q I rx ry h
  obtain ⟨A, d, e, rfl, R, hx, hy, h⟩ := h
  cases op with
  | add =>
    have gen := @seq_add X nw pins s σ x y v u Q A d e I rx ry R hx hy
    cases hx with
    | int i =>
      cases hy with
      | int j => exact op_add pins s σ A.H _ _ v u Q I rx ry ⟨i, j, rfl, rfl, go_val R h (.int _)⟩
      | _ => exact gen h
    | str a ha =>
      cases hy with
      | str b hb =>
        simp only [binop] at h
        split at h
        · rename_i hl
          exact op_add_str pins s σ A.H _ _ v u Q I rx ry ⟨a, b, rfl, rfl, by rw [← line_eq]; exact hl, go_val R h (.str _ (ha.append hb hl))⟩
        · exact h.elim
      | _ => exact gen h
    | @tup a vs ds ht r =>
      cases hy with
      | @tup b us es hu r2 =>
        simp only [binop] at h
        split at h
        · rename_i hl
          refine op_catA pins s σ A.H _ _ v u Q I rx ry ⟨a, b, vs, us, rfl, rfl, SqT.of ht, SqT.of hu, by rw [r.length, r2.length, ← line_eq]; exact hl, fun z => ?_, fun _ z => ?_, fun _ _ p hp => go_tup R h (r.append r2) hp⟩
          · subst z
            cases r
            exact go_val R h (.tup hu r2)
          · subst z
            cases r2
            rw [List.append_nil] at h
            exact go_val R h (.tup ht r)
        · exact h.elim
      | _ => exact gen h
    | @con a vs ds ht r =>
      cases hy with
      | @tup b us es hu r2 =>
        simp only [binop] at h
        split at h
        · exact h.elim
        · rename_i hl
          have hne : us ≠ [] := fun z => by
            subst z
            cases r2
            exact hl (.inl rfl)
          refine op_catA pins s σ A.H _ _ v u Q I rx ry ⟨a, b, vs, us, rfl, rfl, ht _, SqT.of hu, ?_, fun z => ?_, fun _ z => absurd z hne, fun _ _ p hp => go_tup R h (r.append r2) hp⟩
          · rw [r.length, r2.length, ← line_eq]
            exact Nat.le_of_not_lt fun z => hl (.inr z)
          · subst z
            cases r
            exact go_val R h (.tup hu r2)
      | _ => exact gen h
    | _ => cases hy <;> exact gen h
  | sub =>
    cases hx with
    | int i =>
      cases hy with
      | int j => exact op_sub pins s σ A.H _ _ v u Q I rx ry ⟨i, j, rfl, rfl, go_val R h (.int _)⟩
      | _ => exact h.elim
    | _ => exact h.elim
  | mul =>
    have rep : ∀ {k : Int}, y = .int k → Go X.K X.w A (match lstOf A.S d with
      | some xs => if 0 ≤ k ∧ k < 2 ^ 62 ∧ xs.length * k.toNat ≤ line then mk nw (repl k.toNat xs) A.S else .stuck
      | none => .stuck) Q → wpAny (model X.prog X.w) X.A (binaryOp .Mult v u) (EP X pins σ Q) X.xe s := by
      intro k ey hg
      cases e1 : lstOf A.S d with
      | none => rw [e1] at hg; exact hg.elim
      | some ds =>
        simp only [e1] at hg
        split at hg
        · rename_i hc
          obtain ⟨c1, c2, c3⟩ := hc
          obtain ⟨a, xs, rfl, ha, r1⟩ := lstOf_rv R hx e1
          exact op_rep pins s σ A.H _ _ v u Q I rx ry ⟨a, k, xs, rfl, ey, ha, by omega, by omega, by rw [r1.length, ← line_eq]; exact c3, fun p hp => go_mk R hg (r1.rep _) hp⟩
        · exact hg.elim
    cases hy with
    | int j =>
      cases hx with
      | int i =>
        simp only [binop] at h
        split at h
        · rename_i hc
          exact op_mul pins s σ A.H _ _ v u Q I rx ry ⟨i, j, rfl, rfl, by unfold CMul; omega, go_val R h (.int _)⟩
        · exact h.elim
      | _ => exact rep rfl h
    | _ => cases hx <;> exact h.elim
  | fdiv =>
    cases hx with
    | int i =>
      cases hy with
      | int j =>
        simp only [binop] at h
        split at h
        · rename_i hc
          exact op_fdivN pins s σ A.H _ _ v u Q I rx ry ⟨i, j, rfl, rfl, hc, go_val R h (.int _)⟩
        · exact h.elim
      | _ => exact h.elim
    | _ => exact h.elim
  | mod =>
    cases hx with
    | int i =>
      cases hy with
      | int j =>
        simp only [binop] at h
        split at h
        · rename_i hc
          exact op_modN pins s σ A.H _ _ v u Q I rx ry ⟨i, j, rfl, rfl, hc, go_val R h (.int _)⟩
        · exact h.elim
      | _ => exact h.elim
    | _ => exact h.elim
  | pow =>
    cases hx with
    | int i =>
      cases hy with
      | int j =>
        simp only [binop] at h
        split at h
        · rename_i hc
          exact op_pow pins s σ A.H _ _ v u Q I rx ry ⟨i, j, rfl, rfl, hc, go_val R h (.int _)⟩
        · exact h.elim
      | _ => exact h.elim
    | _ => exact h.elim
  | xor =>
    cases hx with
    | int i =>
      cases hy with
      | int j =>
        simp only [binop] at h
        split at h
        · rename_i hc
          refine op_xor pins s σ A.H _ _ v u Q I rx ry ⟨i, j, rfl, rfl, ?_⟩
          show Q (.int (Builtin.bitXor i j)) _
          rw [Bits.bitXor_pp hc.1 hc.2]
          exact go_val R h (.int _)
        · exact h.elim
      | _ => exact h.elim
    | _ => exact h.elim
  | band =>
    cases hx with
    | int i =>
      cases hy with
      | int j =>
        simp only [binop] at h
        split at h
        · rename_i hc
          refine op_and pins s σ A.H _ _ v u Q I rx ry ⟨i, j, rfl, rfl, ?_⟩
          show Q (.int (Builtin.bitAnd i j)) _
          rw [PyProof.Rows.bitAnd_pp hc.1 hc.2]
          exact go_val R h (.int _)
        · exact h.elim
      | _ => exact h.elim
    | _ => exact h.elim

/-! ### dicts -/
theorem keyOf_rv {K : Frag} {w : World} {A : Sit} {y : V} {k : D} {q : Key} (h : RV K w A y k) (e : keyOf k = some q) : y = kV q := by
  cases h <;> simp only [keyOf] at e <;> first | (cases e; rfl) | cases e
theorem okK_of {K : Frag} {w : World} {A : Sit} {y : V} {k : D} {q : Key} (h : RV K w A y k) (e : keyOf k = some q) : okK q := by
  cases h <;> simp only [keyOf] at e <;> cases e <;> first | trivial | assumption
theorem okKs_of {K : Frag} {w : World} {A : Sit} : ∀ {vs : List V} {ds : List D} {ks : List Key}, RVs K w A vs ds → keysOf ds = some ks → ∀ k ∈ ks, okK k
  | _, _, _, .nil, e => by
    simp only [keysOf] at e
    cases e
    exact fun _ m => nomatch m
  | _, _, _, .cons (d := d) h r, e => by
    simp only [keysOf] at e
    split at e
    · rename_i k ks e1 e2
      cases e
      intro q m
      rcases List.mem_cons.mp m with rfl | m
      · exact okK_of h e1
      · exact okKs_of r e2 q m
    · cases e
theorem okT_of {K : Frag} {w : World} {A : Sit} {y : V} {k : D} {q : List Key} (h : RV K w A y k) (e : tkeyOf k = some q) : ∀ k ∈ q, okK k := by
  cases h with
  | tup ht r => exact okKs_of r e
  | _ => cases e
theorem keysOf_rv {K : Frag} {w : World} {A : Sit} : ∀ {vs : List V} {ds : List D} {ks : List Key}, RVs K w A vs ds → keysOf ds = some ks → vs = ks.map kV
  | _, _, _, .nil, e => by cases e; rfl
  | _, _, _, .cons (d := d) (ds := ds) h r, e => by
    simp only [keysOf] at e
    split at e
    · rename_i k ks e1 e2
      cases e
      rw [List.map_cons, ← keyOf_rv h e1, ← keysOf_rv r e2]
    · cases e
theorem tkeyOf_rv {K : Frag} {w : World} {A : Sit} {y : V} {k : D} {q : List Key} (h : RV K w A y k) (e : tkeyOf k = some q) : ∃ b, y = .ref b ∧ A.H b = some (.tup (q.map kV)) := by
  cases h with
  | tup h r =>
    have := keysOf_rv r e
    subst this
    exact ⟨_, rfl, h⟩
  | _ => cases e
theorem look_rv {K : Frag} {w : World} {A : Sit} {κ : Type} [DecidableEq κ] : ∀ {kv : List (κ × V)} {kvs : List (κ × D)} (q : κ), RKV K w A kv kvs → match look kvs q with
    | some d => ∃ v, valV kv q = some v ∧ RV K w A v d
    | none => valV kv q = none
  | _, _, q, .nil => rfl
  | _, _, q, .cons (k := k) (v := v) (d := d) h r => by
    unfold look
    by_cases e : k = q
    · rw [if_pos e]
      exact ⟨v, valV_pos (p := (k, v)) e, h⟩
    · rw [if_neg e, valV_neg (p := (k, v)) e]
      exact look_rv q r
theorem rkv_zip {K : Frag} {w : World} {A : Sit} {κ : Type} : ∀ {ks : List κ} {vs : List V} {ds : List D}, RVs K w A vs ds → RKV K w A (ks.zip vs) (ks.zip ds)
  | [], _, _, _ => by simpa using RKV.nil
  | _ :: _, _, _, .nil => by simpa using RKV.nil
  | _ :: _, _, _, .cons h r => .cons h (rkv_zip r)
theorem lockd_rd {l : Bool} {H : Hp} {a : Addr} {u : HO} (h : lockd l (H a) u) : Rd H a u := by
  unfold lockd at h
  split at h
  · exact .inr h
  · exact .inl h
/-- a dict at x, asked for y: it is there, it isn't -/
def DIs (X : Cx) (A : Sit) (x y : V) (o : Option V) : Prop := ∃ a, x = .ref a ∧ (DGet A.H a y o ∨ ∃ (z : Str) (es : Array DictEntry) (n : Nat), y = .str z ∧ KDict X.K X.w a es n ∧ match o with
  | some v => ∃ u, PySem.W.nsIn X.K a z = some (some u) ∧ RelV v u
  | none => PySem.W.nsIn X.K a z = some none)
theorem dget_rv {A : Sit} (R : Rp X.K X.w A) {x y : V} {d k : D} (hx : RV X.K X.w A x d) (hy : RV X.K X.w A y k) : match dget A.S d k with
    | .no => True
    | .none => DIs X A x y none
    | .some e => ∃ v, DIs X A x y (some v) ∧ RV X.K X.w A v e := by
  cases hx with
  | @dct a ks vs ds h hl r =>
    simp only [dget]
    cases e : keyOf k with
    | none => trivial
    | some q =>
      have ey := keyOf_rv hy e
      have z := look_rv q (rkv_zip (ks := ks) r)
      cases e2 : look (ks.zip ds) q with
      | none =>
        simp only [e2] at z ⊢
        exact ⟨a, rfl, .inl (.inl ⟨_, q, .inl h.1, ey, z.symm⟩)⟩
      | some d' =>
        simp only [e2] at z ⊢
        obtain ⟨v, h1, h2⟩ := z
        exact ⟨v, ⟨a, rfl, .inl (.inl ⟨_, q, .inl h.1, ey, h1.symm⟩)⟩, h2⟩
  | @cdc a ks vs ds h hl r =>
    simp only [dget]
    cases hy with
    | str z hz =>
      obtain ⟨es, n, hk, hv⟩ := h
      have y1 := hv z
      have y2 := look_rv z (rkv_zip (ks := ks) r)
      cases e2 : look (ks.zip ds) z with
      | none =>
        simp only [e2] at y2 ⊢
        rw [y2] at y1
        exact ⟨a, rfl, .inr ⟨z, es, n, rfl, hk, y1⟩⟩
      | some d' =>
        simp only [e2] at y2 ⊢
        obtain ⟨v, h1, h2⟩ := y2
        rw [h1] at y1
        exact ⟨v, ⟨a, rfl, .inr ⟨z, es, n, rfl, hk, y1⟩⟩, h2⟩
    | _ => trivial
  | @ref a n h =>
    simp only [dget]
    cases hc : A.S[n]? with
    | none => trivial
    | some c =>
      have ok := R.cell n a c h hc
      cases c with
      | lst ds => trivial
      | dead => trivial
      | dK kvs l =>
        obtain ⟨kv, h1, r, _⟩ := ok
        simp only
        cases e : keyOf k with
        | none => trivial
        | some q =>
          have ey := keyOf_rv hy e
          have z := look_rv q r
          cases e2 : look kvs q with
          | none =>
            simp only [e2] at z ⊢
            exact ⟨a, rfl, .inl (.inl ⟨_, q, lockd_rd h1, ey, z.symm⟩)⟩
          | some d' =>
            simp only [e2] at z ⊢
            obtain ⟨v, g1, g2⟩ := z
            exact ⟨v, ⟨a, rfl, .inl (.inl ⟨_, q, lockd_rd h1, ey, g1.symm⟩)⟩, g2⟩
      | dT kvs l =>
        obtain ⟨kv, h1, r, _⟩ := ok
        simp only
        cases e : tkeyOf k with
        | none => trivial
        | some q =>
          obtain ⟨b, ey, hb⟩ := tkeyOf_rv hy e
          have z := look_rv q r
          cases e2 : look kvs q with
          | none =>
            simp only [e2] at z ⊢
            exact ⟨a, rfl, .inl (.inr ⟨_, q, b, lockd_rd h1, ey, hb, z.symm⟩)⟩
          | some d' =>
            simp only [e2] at z ⊢
            obtain ⟨v, g1, g2⟩ := z
            exact ⟨v, ⟨a, rfl, .inl (.inr ⟨_, q, b, lockd_rd h1, ey, hb, g1.symm⟩)⟩, g2⟩
  | _ => simp only [dget]

/-! ### comparisons -/
def Cop.op : Cop → CmpOp
  | .eq => .Eq | .ne => .NotEq | .lt => .Lt | .le => .LtE | .gt => .Gt | .ge => .GtE | .is => .Is | .isnot => .IsNot | .in_ => .In | .notin => .NotIn
theorem snap_dp {A : Sit} {n : Nat} (R : Rp X.K X.w A) {x : V} {d : D} (h : RV X.K X.w A x d) (f : fit n (snap A.S d) = true) (hn : n ≤ 64) : Dp X.K A.H x (toPy (snap A.S d)) ∧ SeqAt.shaped (toPy (snap A.S d)) = true := by
  have h0 := h
  cases h with
  | @ref a k h =>
    simp only [snap] at f ⊢
    cases hc : A.S[k]? with
    | none => simp only [hc] at f; cases n <;> simp [fit] at f
    | some c =>
      cases c with
      | lst ds =>
        simp only [hc] at f ⊢
        obtain ⟨vs, h1, r⟩ := R.cell k a _ h hc
        cases n with
        | zero => simp [fit] at f
        | succ n =>
          have f' : fits n ds = true := by simpa [fit] using f
          obtain ⟨l1, l2⟩ := RVs.lay n f' r
          refine ⟨.lst (SqL.of h1) (RVs.dp n f' r), ?_⟩
          show ((toPy (.lst ds)).canLay0 && decide ((toPy (.lst ds)).depth ≤ 64)) = true
          rw [toPy, PyData.canLay0, l1, PyData.depth, decide_eq_true (by omega)]
          rfl
      | _ => simp only [hc] at f; cases n <;> simp [fit] at f
  | _ => exact ⟨RV.dp n f h0, RV.shaped hn f h0⟩
theorem any_py (a : D) : ∀ ds : List D, (toPys ds).any (fun z => z.eqv (toPy a)) = ds.any fun d => eqv d a
  | [] => rfl
  | d :: ds => by rw [toPys, List.any_cons, List.any_cons, any_py a ds, eqv_py]
/-- x in t, t a list or tuple of data -/
theorem in_seq {neg : Bool} {pins : List (Addr × Obj)} {s : Shared} {σ : L2.St} {x y : V} {v u : Value} {Q : VK} {A : Sit} {a b : D} {ds : List D} (hu : X.A.units + 65 < cLine) (I : Inv X pins σ A.H s) (rx : RelV x v) (ry : RelV y u)
    (R : Rp X.K X.w A) (hx : RV X.K X.w A x a) (hy : RV X.K X.w A y b) (e : seqOf A.S b = some ds) (f1 : fit 60 a = true) (f2 : fits 60 ds = true)
    (q : Q (.bl (if neg then !ds.any fun d => eqv d a else ds.any fun d => eqv d a)) A.H) : wpAny (model X.prog X.w) X.A (compareOp (if neg then .NotIn else .In) v u) (EP X pins σ Q) X.xe s := by
  obtain ⟨p, vs, rfl, hp, r⟩ := seqOf_rv R hy e
  cases ry
  have dp := RV.dp 60 f1 hx
  have sd := RV.shaped (n := 60) (by omega) f1 hx
  obtain ⟨as, ra⟩ := Dp.reads I _ _ _ dp rx
  obtain ⟨l1, l2⟩ := RVs.lay 60 f2 r
  have dps := RVs.dp 60 f2 r
  have lay := SeqAt.canLay_of_shaped sd
  have room : X.A.units + 1 + min (PyData.depthAll (toPys ds)) (toPy a).depth < cLine := room_in_shaped sd hu
  rcases sq_or (K := X.K) hp with hq | hq
  · obtain ⟨bs, rb⟩ := Dp.reads I (.list (toPys ds)) _ _ (.lst hq dps) (show L2.RelV (.ref p) (.ref p) from rfl)
    cases neg with
    | false => exact SeqAt.in_list_reads rb ra l1 lay room ⟨_, _, I, by rw [any_py]; rfl, q⟩
    | true => exact SeqAt.notIn_list_reads rb ra l1 lay room ⟨_, _, I, by rw [any_py]; rfl, q⟩
  · obtain ⟨bs, rb⟩ := Dp.reads I (.tuple (toPys ds)) _ _ (.tup hq dps) (show L2.RelV (.ref p) (.ref p) from rfl)
    cases neg with
    | false => exact SeqAt.in_tuple_reads rb ra l1 lay room ⟨_, _, I, by rw [any_py]; rfl, q⟩
    | true => exact SeqAt.notIn_tuple_reads rb ra l1 lay room ⟨_, _, I, by rw [any_py]; rfl, q⟩
theorem in_dict {neg : Bool} {o : Option V} {pins : List (Addr × Obj)} {s : Shared} {σ : L2.St} {x y : V} {v u : Value} {Q : VK} {A : Sit} (hu : X.A.units + 65 < cLine) (I : Inv X pins σ A.H s) (rx : RelV x v) (ry : RelV y u) (h : DIs X A y x o)
    (q : Q (.bl (if neg then !o.isSome else o.isSome)) A.H) : wpAny (model X.prog X.w) X.A (compareOp (if neg then .NotIn else .In) v u) (EP X pins σ Q) X.xe s := by
  obtain ⟨a, rfl, h⟩ := h
  cases ry
  rcases h with h | ⟨z, es, n, rfl, hk, hv⟩
  · cases neg with
    | false => exact d_in (by omega) I h rx fun s' I' => ⟨.bl _, _, I', rfl, q⟩
    | true => exact d_notIn (by omega) I h rx fun s' I' => ⟨.bl _, _, I', rfl, q⟩
  · have hr : ∃ r : Option Value, PySem.W.nsIn X.K a z = some r ∧ r.isSome = o.isSome := by
      cases o with
      | none => exact ⟨none, hv, rfl⟩
      | some v' =>
        obtain ⟨u', h1, _⟩ := hv
        exact ⟨some u', h1, rfl⟩
    obtain ⟨r, h1, h2⟩ := hr
    cases neg with
    | false => exact op_in_kd hk pins s σ A.H _ (.ref a) v (.ref a) Q I rx rfl ⟨z, r, rfl, rfl, h1, by rw [h2]; exact q⟩
    | true => exact op_notIn_kd hk pins s σ A.H _ (.ref a) v (.ref a) Q I rx rfl ⟨z, r, rfl, rfl, h1, by rw [h2]; exact q⟩
theorem rv_non {K : Frag} {w : World} {A : Sit} {x : V} {d : D} (h : RV K w A x d) : decide (x = .non) = (match d with | .non => true | _ => false) := by
  cases h <;> first | rfl | exact decide_eq_false (fun z => nomatch z)
theorem sign_of {x : Str} (h : x.length = 1) : x = ⟨#[x.cps.getD 0 0]⟩ := by
  obtain ⟨⟨l⟩⟩ := x
  have hl : l.length = 1 := h
  obtain ⟨c, rfl⟩ := List.length_eq_one_iff.mp hl
  rfl
theorem in_gen {neg : Bool} {pins : List (Addr × Obj)} {s : Shared} {σ : L2.St} {x y : V} {v u : Value} {Q : VK} {A : Sit} {a b : D} (hu : X.A.units + 65 < cLine) (I : Inv X pins σ A.H s) (rx : RelV x v) (ry : RelV y u)
    (R : Rp X.K X.w A) (hx : RV X.K X.w A x a) (hy : RV X.K X.w A y b)
    (h : Go X.K X.w A (match seqOf A.S b with
      | some ds => if fit 60 a && fits 60 ds then .ok (.bl (if neg then !ds.any fun d => eqv d a else ds.any fun d => eqv d a)) A.S else .stuck
      | none => match dget A.S b a with
        | .no => .stuck
        | .none => .ok (.bl neg) A.S
        | .some _ => .ok (.bl (!neg)) A.S) Q) : wpAny (model X.prog X.w) X.A (compareOp (if neg then .NotIn else .In) v u) (EP X pins σ Q) X.xe s := by
  cases e : seqOf A.S b with
  | some ds =>
    simp only [e] at h
    split at h
    · rename_i hf
      rw [Bool.and_eq_true] at hf
      exact in_seq hu I rx ry R hx hy e hf.1 hf.2 (go_val R h (.bl _))
    · exact h.elim
  | none =>
    simp only [e] at h
    have z := dget_rv R hy hx
    cases e2 : dget A.S b a with
    | no => simp only [e2] at h; exact h.elim
    | none =>
      simp only [e2] at h z
      refine in_dict (neg := neg) hu I rx ry z ?_
      have := go_val R h (.bl _)
      cases neg <;> exact this
    | some d' =>
      simp only [e2] at h z
      obtain ⟨v', z, _⟩ := z
      refine in_dict (neg := neg) hu I rx ry z ?_
      have := go_val R h (.bl _)
      cases neg <;> exact this
theorem or_cmp (hu : X.A.units + 65 < cLine) (op : Cop) : OpR X (compareOp op.op) (r2g X (cmpop op)) := by
  intro pins s σ H x y v u Q I rx ry h
  obtain ⟨A, d, e, rfl, R, hx, hy, h⟩ := h
  cases op with
  | eq =>
    simp only [cmpop] at h
    split at h
    · rename_i hf
      rw [Bool.and_eq_true] at hf
      obtain ⟨a1, a2⟩ := snap_dp R hx hf.1 (by omega)
      obtain ⟨b1, b2⟩ := snap_dp R hy hf.2 (by omega)
      refine op_eqD (by omega) pins s σ A.H _ _ v u Q I rx ry ⟨_, _, a1, b1, a2, b2, ?_⟩
      rw [← eqv_py]
      exact go_val R h (.bl _)
    · exact h.elim
  | ne =>
    simp only [cmpop] at h
    split at h
    · rename_i hf
      rw [Bool.and_eq_true] at hf
      obtain ⟨a1, a2⟩ := snap_dp R hx hf.1 (by omega)
      obtain ⟨b1, b2⟩ := snap_dp R hy hf.2 (by omega)
      refine op_neD (by omega) pins s σ A.H _ _ v u Q I rx ry ⟨_, _, a1, b1, a2, b2, ?_⟩
      rw [← eqv_py]
      exact go_val R h (.bl _)
    · exact h.elim
  | lt =>
    cases hx with
    | int i =>
      cases hy with
      | int j => exact op_lt pins s σ A.H _ _ v u Q I rx ry ⟨i, j, rfl, rfl, go_val R h (.bl _)⟩
      | _ => exact h.elim
    | str i hi =>
      cases hy with
      | str j hj => exact op_lt_str pins s σ A.H _ _ v u Q I rx ry ⟨i, j, rfl, rfl, go_val R h (.bl _)⟩
      | _ => exact h.elim
    | _ => exact h.elim
  | le =>
    cases hx with
    | int i =>
      cases hy with
      | int j => exact op_le pins s σ A.H _ _ v u Q I rx ry ⟨i, j, rfl, rfl, go_val R h (.bl _)⟩
      | _ => exact h.elim
    | _ => exact h.elim
  | gt =>
    cases hx with
    | int i =>
      cases hy with
      | int j => exact op_gt pins s σ A.H _ _ v u Q I rx ry ⟨i, j, rfl, rfl, go_val R h (.bl _)⟩
      | _ => exact h.elim
    | _ => exact h.elim
  | ge =>
    cases hx with
    | int i =>
      cases hy with
      | int j => exact op_ge pins s σ A.H _ _ v u Q I rx ry ⟨i, j, rfl, rfl, go_val R h (.bl _)⟩
      | _ => exact h.elim
    | _ => exact h.elim
  | is =>
    cases hy with
    | non =>
      refine op_isN pins s σ A.H _ _ v u Q I rx ry ⟨rfl, ?_⟩
      have e := rv_non hx
      simp only [cmpop] at h
      have z := go_val R h (.bl _)
      rw [e]
      cases d <;> exact z
    | _ => exact h.elim
  | isnot =>
    cases hy with
    | non =>
      refine op_notN pins s σ A.H _ _ v u Q I rx ry ⟨rfl, ?_⟩
      have e := rv_non hx
      simp only [cmpop] at h
      have z := go_val R h (.bl _)
      rw [e]
      cases d <;> exact z
    | _ => exact h.elim
  | in_ =>
    have gen := @in_gen X false pins s σ x y v u Q A d e hu I rx ry R hx hy
    cases hx with
    | str a ha =>
      cases hy with
      | str b hb =>
        simp only [cmpop] at h
        split at h
        · rename_i hl
          exact op_in_sign pins s σ A.H _ _ v u Q I rx ry ⟨_, b, congrArg V.str (sign_of hl), rfl, go_val R h (.bl _)⟩
        · exact h.elim
      | _ => exact gen h
    | _ => exact gen h
  | notin =>
    have gen := @in_gen X true pins s σ x y v u Q A d e hu I rx ry R hx hy
    cases hx with
    | str a ha =>
      cases hy with
      | str b hb =>
        simp only [cmpop] at h
        split at h
        · rename_i hl
          exact op_notIn_sign pins s σ A.H _ _ v u Q I rx ry ⟨_, b, congrArg V.str (sign_of hl), rfl, go_val R h (.bl _)⟩
        · exact h.elim
      | _ => exact gen h
    | _ => exact gen h
end
end Cl

set_option linter.all false
set_option autoImplicit false
set_option maxRecDepth 100000
set_option maxHeartbeats 1000000
/-! Cl: subscripts, slices, built-in functions, methods, stores by values. -/
namespace Cl
open PySem PySem.Spec PyProof.Rows L2

section
variable {X : Cx}
theorem atI_rv {K : Frag} {w : World} {A : Sit} {vs : List V} {ds : List D} {i : Int} {d : D} (r : RVs K w A vs ds) (e : atI ds i = some d) : ∃ v, L2.atI vs i = some v ∧ RV K w A v d := by
  unfold atI at e
  obtain ⟨j, h1, h2⟩ := Option.bind_eq_some_iff.mp e
  obtain ⟨v, h3, h4⟩ := r.get h2
  refine ⟨v, ?_, h4⟩
  unfold L2.atI
  rw [r.length]
  exact Option.bind_eq_some_iff.mpr ⟨j, h1, h3⟩
theorem ix_dict {value slice : Expr} {pins : List (Addr × Obj)} {s : Shared} {σ : L2.St} {x y : V} {v u : Value} {Q : VK} {A : Sit} {z : V} (hu : X.A.units + 65 < cLine) (I : Inv X pins σ A.H s) (rx : RelV x v) (ry : RelV y u) (h : DIs X A x y (some z))
    (q : Q z A.H) (hs : subscripted slice false v u = operate [v, u] (getItem v u)) : wpAny (model X.prog X.w) X.A (subscriptTail value slice v u) (EP X pins σ Q) X.xe s := by
  obtain ⟨a, rfl, h⟩ := h
  cases rx
  rcases h with h | ⟨t, es, n, rfl, hk, u0, e, ru⟩
  · exact tail_any (dict_typeIs I h) PySem.F.slot_dict_getitem.lookup (d_getItem (by omega) I h ry fun w' s' I' r' => ⟨z, _, I', r', q⟩) hs
  · exact ix_kdict value slice pins s σ A.H _ _ _ u Q I (show L2.RelV (.ref a) (.ref a) from rfl) ry ⟨a, t, z, rfl, rfl, ⟨es, n, u0, hk.at_, hk.lit, e, ru⟩, q⟩ hs
theorem ix_seqd {value slice : Expr} {pins : List (Addr × Obj)} {s : Shared} {σ : L2.St} {x : V} {i : Int} {v u : Value} {Q : VK} {A : Sit} {d e : D} {ds : List D} (I : Inv X pins σ A.H s) (rx : RelV x v) (ry : RelV (.int i) u)
    (R : Rp X.K X.w A) (hx : RV X.K X.w A x d) (e1 : seqOf A.S d = some ds) (e2 : atI ds i = some e) (h : Go X.K X.w A (.ok e A.S) Q)
    (hs : subscripted slice false v u = operate [v, u] (getItem v u)) : wpAny (model X.prog X.w) X.A (subscriptTail value slice v u) (EP X pins σ Q) X.xe s := by
  obtain ⟨a, vs, rfl, hp, r⟩ := seqOf_rv R hx e1
  obtain ⟨z, h1, h2⟩ := atI_rv r e2
  refine ix_seq value slice pins s σ A.H _ _ v u Q I rx ry ?_ hs
  rcases sq_or (K := X.K) hp with hq | hq
  · exact .inl ⟨a, vs, i, z, rfl, rfl, hq, h1, go_val R h h2⟩
  · exact .inr (.inl ⟨a, vs, i, z, rfl, rfl, hq, h1, go_val R h h2⟩)
theorem ir_get (hu : X.A.units + 65 < cLine) : IxR X (r2g X getitem) := by
  intro value slice pins s σ H x y v u Q I rx ry h hs
  obtain ⟨A, d, e, rfl, R, hx, hy, h⟩ := h
  have dic : Go X.K X.w A (match dget A.S d e with
      | .some d => .ok d A.S
      | _ => .stuck) Q → wpAny (model X.prog X.w) X.A (subscriptTail value slice v u) (EP X pins σ Q) X.xe s := fun g => by
    have z := dget_rv R hx hy
    cases e2 : dget A.S d e with
    | no => simp only [e2] at g; exact g.elim
    | none => simp only [e2] at g; exact g.elim
    | some d' =>
      simp only [e2] at g z
      obtain ⟨v', z, r⟩ := z
      exact ix_dict hu I rx ry z (go_val R g r) hs
  have seq : ∀ i : Int, e = .int i → Go X.K X.w A (match seqOf A.S d with
      | some ds => (match atI ds i with
        | some d => .ok d A.S
        | none => .stuck)
      | none => match dget A.S d (.int i) with
        | .some d => .ok d A.S
        | _ => .stuck) Q → wpAny (model X.prog X.w) X.A (subscriptTail value slice v u) (EP X pins σ Q) X.xe s := fun i ei g => by
    subst ei
    cases e1 : seqOf A.S d with
    | none => simp only [e1] at g; exact dic g
    | some ds =>
      simp only [e1] at g
      cases e2 : atI ds i with
      | none => simp only [e2] at g; exact g.elim
      | some d' =>
        simp only [e2] at g
        cases hy
        exact ix_seqd I rx ry R hx e1 e2 g hs
  cases hy with
  | int i =>
    cases hx with
    | str z hz =>
      simp only [getitem] at h
      split at h
      · rename_i c hc
        obtain ⟨j, _, hj⟩ := Option.bind_eq_some_iff.mp hc
        have hm := okS.mem hz c (List.mem_of_getElem? hj)
        exact ix_seq value slice pins s σ A.H _ _ v u Q I rx ry (.inr (.inr ⟨z, i, c, rfl, rfl, by rw [← line_eq]; exact hz.1, hc, go_val R h (.str _ (okS_sign hm))⟩)) hs
      · exact h.elim
    | _ => exact seq i rfl h
  | _ => cases hx <;> exact dic h

/-! ### slices -/
def rsg (X : Cx) (nw : Bool) : V → Option Int → Option Int → Hp → VK → Prop := fun x lo hi H Q => ∃ (A : Sit) (d : D), A.H = H ∧ Rp X.K X.w A ∧ RV X.K X.w A x d ∧ Go X.K X.w A (slice nw d lo hi A.S) Q
theorem RVs.cut {K : Frag} {w : World} {A : Sit} {vs : List V} {ds : List D} (r : RVs K w A vs ds) (lo hi : Option Int) : RVs K w A (cutV vs lo hi) (Cl.cut ds lo hi) := by
  unfold cutV Cl.cut
  rw [r.length]
  exact (r.drop _).take _
theorem cut_whole {ds : List D} {lo hi : Option Int} (h : HT.sIx ds.length 0 lo = 0 ∧ HT.sIx ds.length ds.length hi = ds.length) : Cl.cut ds lo hi = ds := by
  unfold Cl.cut
  have h1 : sIx ds.length 0 lo = 0 := h.1
  have h2 : sIx ds.length ds.length hi = ds.length := h.2
  rw [h1, h2, List.drop_zero, Nat.sub_zero, List.take_length]
theorem sr_slice (nw : Bool) : SlR X (rsg X nw) := by
  intro pins s σ H x v vl vu lo hi sl Q I rx hs pl pu h
  obtain ⟨A, d, rfl, R, hx, h⟩ := h
  have lst : ∀ {ds : List D}, lstOf A.S d = some ds → Go X.K X.w A (mk nw (Cl.cut ds lo hi) A.S) Q → ∃ T id, typeLookup (.type T) "__getitem__" = pure (some (.builtin id)) ∧ s.TypeIs v T ∧ wpAny (model X.prog X.w) X.A (getItem v (.ref sl)) (EP X pins σ Q) X.xe s := fun {ds} e g => by
    obtain ⟨a, vs, rfl, ha, r⟩ := lstOf_rv R hx e
    exact sl_list pins s σ A.H _ v vl vu lo hi sl Q I rx hs pl pu ⟨a, vs, rfl, SqL.of ha, fun p hp => go_mk R g (r.cut lo hi) hp⟩
  cases hx with
  | str z hz =>
    simp only [slice] at h
    refine sl_str pins s σ A.H _ v vl vu lo hi sl Q I rx hs pl pu ⟨z, rfl, by rw [← line_eq]; exact hz.1, go_val R h (.str _ (okS_list ?_ fun c hc => ?_))⟩
    · show ((z.cps.toList.drop _).take _).length ≤ line
      rw [List.length_take, List.length_drop, Array.length_toList]
      have : z.cps.size ≤ line := hz.1
      omega
    · exact okS.mem hz c (List.mem_of_mem_drop (List.mem_of_mem_take hc))
  | @tup a vs ds ht r =>
    simp only [slice] at h
    refine sl_tupA pins s σ A.H _ v vl vu lo hi sl Q I rx hs pl pu ⟨a, vs, rfl, SqT.of ht, fun hw => ?_, fun _ p hp => go_tup R h (r.cut lo hi) hp⟩
    rw [r.length] at hw
    rw [cut_whole hw] at h
    exact go_val R h (.tup ht r)
  | @scr a vs ds ht r =>
    simp only [slice] at h
    refine sl_list pins s σ A.H _ v vl vu lo hi sl Q I rx hs pl pu ⟨a, vs, rfl, ?_, fun p hp => go_mk R h (r.cut lo hi) hp⟩
    rcases ht with ⟨o, ht, _⟩ | ht
    · exact .inl (.inr ⟨o, ht⟩)
    · exact ht _
  | @lst a vs ds ht r => exact lst rfl h
  | @ref a n hn =>
    simp only [slice] at h
    cases e : lstOf A.S (.ref n) with
    | none => simp only [e] at h; exact h.elim
    | some ds => simp only [e] at h; exact lst e h
  | _ => exact h.elim

/-! ### built-in functions -/
def rlg (X : Cx) (g : List D → Store → Res D) : List V → Hp → VK → Prop := fun xs H Q => ∃ (A : Sit) (ds : List D), A.H = H ∧ Rp X.K X.w A ∧ RVs X.K X.w A xs ds ∧ Go X.K X.w A (g ds A.S) Q
theorem bools_rv {K : Frag} {w : World} {A : Sit} : ∀ {vs : List V} {ds : List D} {bs : List Bool}, RVs K w A vs ds → bools ds = some bs → vs = bs.map V.bl
  | _, _, _, .nil, e => by cases e; rfl
  | _, _, _, .cons (d := d) h r, e => by
    cases h with
    | bl b =>
      simp only [bools] at e
      obtain ⟨l, e1, e2⟩ := Option.map_eq_some_iff.mp e
      subst e2
      rw [List.map_cons, bools_rv r e1]
    | _ => cases e
theorem txts_rv {K : Frag} {w : World} {A : Sit} : ∀ {vs : List V} {ds : List D} {ss : List Str}, RVs K w A vs ds → txts ds = some ss → vs = ss.map V.str ∧ ∀ x ∈ ss, okS x
  | _, _, _, .nil, e => by cases e; exact ⟨rfl, fun _ h => nomatch h⟩
  | _, _, _, .cons (d := d) h r, e => by
    cases h with
    | str x hx =>
      simp only [txts] at e
      obtain ⟨l, e1, e2⟩ := Option.map_eq_some_iff.mp e
      subst e2
      obtain ⟨h1, h2⟩ := txts_rv r e1
      refine ⟨by rw [List.map_cons, h1], fun y hy => ?_⟩
      rcases List.mem_cons.mp hy with rfl | hy
      · exact hx
      · exact h2 y hy
    | _ => cases e
def Bi.val : Bi → Value
  | .len => .builtin "len" | .all => .builtin "all" | .any => .builtin "any" | .tuple => .type "tuple" | .list => .type "list" | .int => .type "int" | .str => .type "str" | .max2 => .builtin "max" | .min2 => .builtin "min"
theorem seq_len {K : Frag} {w : World} {A : Sit} (R : Rp K w A) {x : V} {d : D} {ds : List D} (h : RV K w A x d) (e : seqOf A.S d = some ds) : LenV K x A.H ds.length := by
  obtain ⟨a, vs, rfl, hp, r⟩ := seqOf_rv R h e
  rcases sq_or (K := K) hp with hq | hq
  · exact .inl ⟨vs, hq, r.length.symm⟩
  · exact .inr ⟨vs, hq, r.length.symm⟩
theorem okS_nat (i : Int) : okS (Str.ofString (toString i)) ∨ True := .inr trivial
theorem rvs1 {K : Frag} {w : World} {A : Sit} {xs : List V} {d : D} (r : RVs K w A xs [d]) : ∃ x, xs = [x] ∧ RV K w A x d := by
  cases r with
  | cons h r => cases r; exact ⟨_, rfl, h⟩
theorem rvs2 {K : Frag} {w : World} {A : Sit} {xs : List V} {d e : D} (r : RVs K w A xs [d, e]) : ∃ x y, xs = [x, y] ∧ RV K w A x d ∧ RV K w A y e := by
  cases r with
  | cons h r => cases r with
    | cons h2 r => cases r; exact ⟨_, _, rfl, h, h2⟩
theorem ofString_cps (s : String) : ∀ c ∈ (Str.ofString s).cps.toList, c < 0x110000 := by
  rw [Str.ofString_eq_toList]
  intro c hc
  simp only [List.mem_map] at hc
  obtain ⟨ch, _, rfl⟩ := hc
  have h := ch.valid
  simp only [UInt32.isValidChar, Nat.isValidChar] at h
  show ch.val.toNat < 0x110000
  omega
theorem okS_int {i : Int} (h : i.natAbs.log2 < 1920) : okS (Str.ofString (toString i)) := by
  constructor
  · have := int_text_fits h
    rw [line_eq]
    exact this
  · have hm := ofString_cps (toString i)
    rw [← Array.all_toList, List.all_eq_true]
    exact fun c hc => decide_eq_true (hm c hc)
theorem cr_bi (hc : X.calm = true) (nw : Bool) (b : Bi) : CallR X b.val (rlg X (biSem nw b)) := by
  intro pins s σ H xs us Q I r h
  obtain ⟨A, ds, rfl, R, hx, h⟩ := h
  cases b with
  | len =>
    match ds, hx, h with
    | [d], hx, h =>
      obtain ⟨x, rfl, h1⟩ := rvs1 hx
      have gen : Go X.K X.w A (match seqOf A.S d with
          | some ds => .ok (.int ds.length) A.S
          | none => .stuck) Q → wpAny (model X.prog X.w) X.A (call Bi.len.val us) (EP X pins σ Q) X.xe s := fun g => by
        cases e : seqOf A.S d with
        | none => simp only [e] at g; exact g.elim
        | some ds =>
          simp only [e] at g
          exact call_len pins s σ A.H _ us Q I r ⟨x, ds.length, rfl, seq_len R h1 e, go_val R g (.int _)⟩
      cases h1 with
      | str z hz => exact call_len pins s σ A.H _ us Q I r ⟨_, z.length, rfl, ⟨by rw [← line_eq]; exact hz.1, rfl⟩, go_val R h (.int _)⟩
      | _ => exact gen h
    | [], _, h => simp [biSem, Go] at h
    | _ :: _ :: _, _, h => simp [biSem, Go] at h
  | all =>
    match ds, hx, h with
    | [d], hx, h =>
      obtain ⟨x, rfl, h1⟩ := rvs1 hx
      simp only [biSem] at h
      cases e : (lstOf A.S d).bind bools with
      | none => simp [e, Go] at h
      | some bs =>
        simp only [e] at h
        obtain ⟨l, e1, e2⟩ := Option.bind_eq_some_iff.mp e
        obtain ⟨a, vs, rfl, ha, rv⟩ := lstOf_rv R h1 e1
        have ev := bools_rv rv e2
        subst ev
        exact cr_all hc pins s σ A.H _ us Q I r ⟨a, bs, rfl, SqL.of ha, go_val R h (.bl _)⟩
    | [], _, h => simp [biSem, Go] at h
    | _ :: _ :: _, _, h => simp [biSem, Go] at h
  | any =>
    match ds, hx, h with
    | [d], hx, h =>
      obtain ⟨x, rfl, h1⟩ := rvs1 hx
      simp only [biSem] at h
      cases e : (lstOf A.S d).bind bools with
      | none => simp [e, Go] at h
      | some bs =>
        simp only [e] at h
        obtain ⟨l, e1, e2⟩ := Option.bind_eq_some_iff.mp e
        obtain ⟨a, vs, rfl, ha, rv⟩ := lstOf_rv R h1 e1
        have ev := bools_rv rv e2
        subst ev
        exact cr_any hc pins s σ A.H _ us Q I r ⟨a, bs, rfl, SqL.of ha, go_val R h (.bl _)⟩
    | [], _, h => simp [biSem, Go] at h
    | _ :: _ :: _, _, h => simp [biSem, Go] at h
  | tuple =>
    match ds, hx, h with
    | [d], hx, h =>
      obtain ⟨x, rfl, h1⟩ := rvs1 hx
      have gen : Go X.K X.w A (match lstOf A.S d with
          | some ds => .ok (.tup ds) A.S
          | none => .stuck) Q → wpAny (model X.prog X.w) X.A (call Bi.tuple.val us) (EP X pins σ Q) X.xe s := fun g => by
        cases e : lstOf A.S d with
        | none => simp only [e] at g; exact g.elim
        | some ds =>
          simp only [e] at g
          obtain ⟨a, vs, rfl, ha, rv⟩ := lstOf_rv R h1 e
          exact call_tuple_of pins s σ A.H _ us Q I r ⟨a, vs, rfl, .inl ⟨SqL.of ha, fun p hp => go_tup R g rv hp⟩⟩
      cases h1 with
      | @tup a vs ds ht rv => exact call_tuple_of pins s σ A.H _ us Q I r ⟨a, vs, rfl, .inr ⟨SqT.of ht, go_val R h (.tup ht rv)⟩⟩
      | _ => exact gen h
    | [], _, h => simp [biSem, Go] at h
    | _ :: _ :: _, _, h => simp [biSem, Go] at h
  | list =>
    match ds, hx, h with
    | [d], hx, h =>
      obtain ⟨x, rfl, h1⟩ := rvs1 hx
      simp only [biSem] at h
      cases e : seqOf A.S d with
      | none => simp [e, Go] at h
      | some ds =>
        simp only [e] at h
        obtain ⟨a, vs, rfl, hp, rv⟩ := seqOf_rv R h1 e
        exact call_list_of pins s σ A.H _ us Q I r ⟨a, vs, rfl, sq_or (K := X.K) hp, fun p hp' => go_mk R h rv hp'⟩
    | [], _, h => simp [biSem, Go] at h
    | _ :: _ :: _, _, h => simp [biSem, Go] at h
  | int =>
    match ds, hx, h with
    | [d], hx, h =>
      obtain ⟨x, rfl, h1⟩ := rvs1 hx
      cases h1 with
      | int i => exact call_int1 pins s σ A.H _ us Q I r (.inl ⟨i, rfl, go_val R h (.int _)⟩)
      | _ => simp [biSem, Go] at h
    | [], _, h => simp [biSem, Go] at h
    | _ :: _ :: _, _, h => simp [biSem, Go] at h
  | str =>
    match ds, hx, h with
    | [d], hx, h =>
      obtain ⟨x, rfl, h1⟩ := rvs1 hx
      cases h1 with
      | int i =>
        simp only [biSem] at h
        split at h
        · rename_i hl
          exact call_str_int pins s σ A.H _ us Q I r ⟨i, rfl, hl, go_val R h (.str _ (okS_int hl))⟩
        · exact h.elim
      | _ => simp [biSem, Go] at h
    | [], _, h => simp [biSem, Go] at h
    | _ :: _ :: _, _, h => simp [biSem, Go] at h
  | max2 =>
    match ds, hx, h with
    | [d, e], hx, h =>
      obtain ⟨x, y, rfl, h1, h2⟩ := rvs2 hx
      cases h1 with
      | int i =>
        cases h2 with
        | int j => exact call_max2 hc pins s σ A.H _ us Q I r ⟨i, j, rfl, go_val R h (.int _)⟩
        | _ => simp [biSem, Go] at h
      | _ => simp [biSem, Go] at h
    | [], _, h => simp [biSem, Go] at h
    | [_], hx, h => simp [biSem, Go] at h
    | _ :: _ :: _ :: _, _, h => simp [biSem, Go] at h
  | min2 =>
    match ds, hx, h with
    | [d, e], hx, h =>
      obtain ⟨x, y, rfl, h1, h2⟩ := rvs2 hx
      cases h1 with
      | int i =>
        cases h2 with
        | int j => exact call_min2 hc pins s σ A.H _ us Q I r ⟨i, j, rfl, go_val R h (.int _)⟩
        | _ => simp [biSem, Go] at h
      | _ => simp [biSem, Go] at h
    | [], _, h => simp [biSem, Go] at h
    | [_], hx, h => simp [biSem, Go] at h
    | _ :: _ :: _ :: _, _, h => simp [biSem, Go] at h
end
end Cl

set_option linter.all false
set_option autoImplicit false
set_option maxRecDepth 100000
set_option maxHeartbeats 1000000
/-! Cl: methods, stores, operators in place, isinstance by values. -/
namespace Cl
open PySem PySem.Spec PyProof.Rows L2

section
variable {K : Frag} {w : World} {A : Sit}
theorem go_put {Q : VK} {n : Nat} {a : Addr} {c c' : Cell} {o : HO} {d : D} {v : V} (R : Rp K w A) (hi : A.m[n]? = some a) (hc : A.S[n]? = some c) (hd : c.free = true) (ok : CellOk K w (A.put n a o c') a c') (r : RV K w A v d)
    (h : Go K w A (.ok d (A.S.set n c')) Q) : Q v (upd A.H a o) :=
  h v (A.put n a o c') (ext_put R hi hc hd) (rp_put R hi hc hd ok) rfl (r.ext (ext_put R hi hc hd))
def GoU (K : Frag) (w : World) (A : Sit) (r : Res Unit) (Q : Hp → Prop) : Prop := match r with
  | .ok _ S1 => ∀ B : Sit, Ext A B → Rp K w B → B.S = S1 → Q B.H
  | .exc _ _ _ => True
  | .stuck => False
theorem gou_put {Q : Hp → Prop} {n : Nat} {a : Addr} {c c' : Cell} {o : HO} (R : Rp K w A) (hi : A.m[n]? = some a) (hc : A.S[n]? = some c) (hd : c.free = true) (ok : CellOk K w (A.put n a o c') a c')
    (h : GoU K w A (.ok () (A.S.set n c')) Q) : Q (upd A.H a o) :=
  h (A.put n a o c') (ext_put R hi hc hd) (rp_put R hi hc hd ok) rfl
theorem ok_lst {n : Nat} {a : Addr} {ds ds' : List D} {vs' : List V} (R : Rp K w A) (hi : A.m[n]? = some a) (hc : A.S[n]? = some (.lst ds)) (r : RVs K w A vs' ds') :
    CellOk K w (A.put n a (.lst vs') (.lst ds')) a (.lst ds') := ⟨vs', upd_same, r.ext (ext_put R hi hc rfl)⟩
theorem RKV.any {κ : Type} [DecidableEq κ] {kv : List (κ × V)} {kvs : List (κ × D)} (k : κ) (r : RKV K w A kv kvs) : (kv.any fun p => decide (p.1 = k)) = kvs.any fun p => decide (p.1 = k) := by
  induction r with
  | nil => rfl
  | cons h r ih => rw [List.any_cons, List.any_cons, ih]
theorem RKV.append {κ : Type} {kv kv' : List (κ × V)} {kvs kvs' : List (κ × D)} (r : RKV K w A kv kvs) (r' : RKV K w A kv' kvs') : RKV K w A (kv ++ kv') (kvs ++ kvs') := by
  induction r with
  | nil => exact r'
  | cons h r ih => exact .cons h ih
theorem rkv_map {κ : Type} [DecidableEq κ] {v : V} {d : D} {k : κ} (hv : RV K w A v d) : ∀ {kv : List (κ × V)} {kvs : List (κ × D)}, RKV K w A kv kvs →
    RKV K w A (kv.map fun p => if p.1 = k then (p.1, v) else p) (kvs.map fun p => if p.1 = k then (p.1, d) else p)
  | _, _, .nil => .nil
  | _, _, .cons (k := k') h r => by
    rw [List.map_cons, List.map_cons]
    by_cases e : k' = k
    · simp only [if_pos e]
      exact .cons hv (rkv_map hv r)
    · simp only [if_neg e]
      exact .cons h (rkv_map hv r)
theorem RKV.put {κ : Type} [DecidableEq κ] {kv : List (κ × V)} {kvs : List (κ × D)} {v : V} {d : D} (k : κ) (hv : RV K w A v d) (r : RKV K w A kv kvs) : RKV K w A (putK kv k v) (Cl.put kvs k d) := by
  unfold putK Cl.put
  rw [r.any k]
  split
  · refine rkv_map hv r
  · exact r.append (.cons hv .nil)
end

section
variable {X : Cx}
/-! ### methods -/
def rmg (X : Cx) (m : Mt) : V → List V → Hp → VK → Prop := fun x xs H Q => ∃ (A : Sit) (d : D) (ds : List D), A.H = H ∧ Rp X.K X.w A ∧ RV X.K X.w A x d ∧ RVs X.K X.w A xs ds ∧ Go X.K X.w A (mtSem m d ds A.S) Q
theorem cell_of {K : Frag} {w : World} {A : Sit} (R : Rp K w A) {n : Nat} {ds : List D} {a : Addr} (hn : A.m[n]? = some a) (hc : A.S[n]? = some (.lst ds)) : ∃ vs, A.H a = some (.lst vs) ∧ RVs K w A vs ds := R.cell n a _ hn hc
theorem mr_append : MtR X "list.append" (rmg X .append) := by
  intro pins s σ H x xs v us Q I rx rs h
  obtain ⟨A, d, ds, rfl, R, hx, hs, h⟩ := h
  match ds, hs, h with
  | [e], hs, h =>
    obtain ⟨y, rfl, h1⟩ := rvs1 hs
    cases hx with
    | @ref a n hn =>
      simp only [mtSem] at h
      cases hc : A.S[n]? with
      | none => simp [hc, Go] at h
      | some c =>
        cases c with
        | lst l =>
          simp only [hc] at h
          split at h
          · rename_i hl
            obtain ⟨vs, ha, r⟩ := cell_of R hn hc
            exact mt_append pins s σ A.H _ _ v us Q I rx rs ⟨a, vs, y, rfl, rfl, ha, by rw [r.length, ← line_eq]; exact hl, go_put R hn hc rfl (ok_lst R hn hc (r.append (.cons h1 .nil))) .non h⟩
          · exact h.elim
        | _ => simp [hc, Go] at h
    | _ => simp [mtSem, Go] at h
  | [], _, h => cases hx <;> simp [mtSem, Go] at h
  | _ :: _ :: _, _, h => cases hx <;> simp [mtSem, Go] at h
theorem mr_extend : MtR X "list.extend" (rmg X .extend) := by
  intro pins s σ H x xs v us Q I rx rs h
  obtain ⟨A, d, ds, rfl, R, hx, hs, h⟩ := h
  match ds, hs, h with
  | [e], hs, h =>
    obtain ⟨y, rfl, h1⟩ := rvs1 hs
    cases hx with
    | @ref a n hn =>
      simp only [mtSem] at h
      cases hc : A.S[n]? with
      | none => simp [hc, Go] at h
      | some c =>
        cases c with
        | lst l =>
          cases he : lstOf A.S e with
          | none => simp [hc, he, Go] at h
          | some l2 =>
            simp only [hc, he] at h
            split at h
            · rename_i hl
              obtain ⟨vs, ha, r⟩ := cell_of R hn hc
              obtain ⟨b, vs2, rfl, hb, r2⟩ := lstOf_rv R h1 he
              exact mt_extend pins s σ A.H _ _ v us Q I rx rs ⟨a, b, vs, vs2, rfl, rfl, ha, hb, by rw [r.length, r2.length, ← line_eq]; exact hl, go_put R hn hc rfl (ok_lst R hn hc (r.append r2)) .non h⟩
            · exact h.elim
        | _ => simp [hc, Go] at h
    | _ => simp [mtSem, Go] at h
  | [], _, h => cases hx <;> simp [mtSem, Go] at h
  | _ :: _ :: _, _, h => cases hx <;> simp [mtSem, Go] at h
theorem mr_pop : MtR X "list.pop" (rmg X .pop) := by
  intro pins s σ H x xs v us Q I rx rs h
  obtain ⟨A, d, ds, rfl, R, hx, hs, h⟩ := h
  match ds, hs, h with
  | [], hs, h =>
    cases hs
    cases hx with
    | @ref a n hn =>
      simp only [mtSem] at h
      cases hc : A.S[n]? with
      | none => simp [hc, Go] at h
      | some c =>
        cases c with
        | lst l =>
          simp only [hc] at h
          obtain ⟨vs, ha, r⟩ := cell_of R hn hc
          split at h
          · rename_i e he
            obtain ⟨y, hy, hr⟩ := r.get he
            exact mt_pop pins s σ A.H _ _ v us Q I rx rs ⟨a, vs, y, rfl, rfl, ha, by rw [r.length]; exact hy, go_put R hn hc rfl (ok_lst R hn hc r.dropLast) hr h⟩
          · exact h.elim
        | _ => simp [hc, Go] at h
    | _ => simp [mtSem, Go] at h
  | _ :: _, _, h => cases hx <;> simp [mtSem, Go] at h
theorem mr_popAt : MtR X "list.pop" (rmg X .popAt) := by
  intro pins s σ H x xs v us Q I rx rs h
  obtain ⟨A, d, ds, rfl, R, hx, hs, h⟩ := h
  match ds, hs, h with
  | [e], hs, h =>
    obtain ⟨y, rfl, h1⟩ := rvs1 hs
    cases hx with
    | @ref a n hn =>
      cases h1 with
      | int i =>
        simp only [mtSem] at h
        cases hc : A.S[n]? with
        | none => simp [hc, Go] at h
        | some c =>
          cases c with
          | lst l =>
            simp only [hc] at h
            obtain ⟨vs, ha, r⟩ := cell_of R hn hc
            split at h
            · rename_i j hj
              split at h
              · rename_i e he
                obtain ⟨y, hy, hr⟩ := r.get he
                obtain ⟨z1, z2, z3, z4⟩ := L2.ixN_seq (show L2.ixN l.length i = some j from hj)
                have hlen := (I.lstM ha).1
                rw [sizeLine_eq] at hlen
                have := r.length
                exact mt_popAt pins s σ A.H _ _ v us Q I rx rs ⟨a, vs, i, j, y, rfl, rfl, ha, by omega, by omega, by rw [r.length]; exact z1, hy, go_put R hn hc rfl (ok_lst R hn hc (r.eraseIdx j)) hr h⟩
              · exact h.elim
            · exact h.elim
          | _ => simp [hc, Go] at h
      | _ => simp [mtSem, Go] at h
    | _ => simp [mtSem, Go] at h
  | [], _, h => cases hx <;> simp [mtSem, Go] at h
  | _ :: _ :: _, _, h => cases hx <;> simp [mtSem, Go] at h
theorem place_py (a : D) : ∀ ds : List D, SeqAt.dataPlace (toPys ds) (toPy a) = ds.findIdx? fun d => eqv d a
  | [] => rfl
  | d :: ds => by
    have ih := place_py a ds
    unfold SeqAt.dataPlace at ih ⊢
    rw [toPys, List.findIdx?_cons, List.findIdx?_cons, ih, eqv_py]
theorem mr_remove (hu : X.A.units + 65 < cLine) : MtR X "list.remove" (rmg X .remove) := by
  intro pins s σ H x xs v us Q I rx rs h
  obtain ⟨A, d, ds, rfl, R, hx, hs, h⟩ := h
  match ds, hs, h with
  | [e], hs, h =>
    obtain ⟨y, rfl, h1⟩ := rvs1 hs
    cases hx with
    | @ref a n hn =>
      simp only [mtSem] at h
      cases hc : A.S[n]? with
      | none => simp [hc, Go] at h
      | some c =>
        cases c with
        | lst l =>
          simp only [hc] at h
          split at h
          · rename_i hf
            rw [Bool.and_eq_true] at hf
            split at h
            · rename_i j hj
              obtain ⟨vs, ha, r⟩ := cell_of R hn hc
              cases rx
              cases rs with
              | @cons _ u _ _ ru rs =>
                cases rs
                have dp := RV.dp 60 hf.1 h1
                have sd := RV.shaped (n := 60) (by omega) hf.1 h1
                obtain ⟨as, ra⟩ := Dp.reads I _ _ _ dp ru
                obtain ⟨l1, l2⟩ := RVs.lay 60 hf.2 r
                have dps := RVs.dp 60 hf.2 r
                obtain ⟨z, its, nn, rv, hl, e0⟩ := I.lstM ha
                obtain ⟨bs, rb⟩ := Dp.readsAll I _ _ its dps rv
                refine SeqAt.remove_list_data (vs := its.toArray) (j := j) ⟨_, e0, rfl, nn, rfl⟩ (by simpa using rb) ra (PyData.plainAll_of_canLay0 _ l1) (PyData.plain_of_canLay0 _ (SeqAt.canLay_of_shaped sd)) (room_in_shaped sd hu) (by rw [place_py]; exact hj) (by rw [List.size_toArray]; omega) ?_
                refine ⟨.non, _, I.lset (its' := its.eraseIdx j) (ys := vs.eraseIdx j) (t' := s.toks) ha e0 ?_ (rv.eraseIdx j) ?_, rfl, go_put R hn hc rfl (ok_lst R hn hc (r.eraseIdx j)) .non h⟩
                · show its.toArray.eraseIdxIfInBounds j = (its.eraseIdx j).toArray
                  rw [List.eraseIdxIfInBounds_toArray]
                · have := len_erase vs j
                  omega
            · exact h.elim
          · exact h.elim
        | _ => simp [hc, Go] at h
    | _ => simp [mtSem, Go] at h
  | [], _, h => cases hx <;> simp [mtSem, Go] at h
  | _ :: _ :: _, _, h => cases hx <;> simp [mtSem, Go] at h
theorem join_len (sep : Str) : ∀ ss : List Str, (Str.join sep ss).length ≤ joinLen sep ss
  | [] => Nat.zero_le _
  | [x] => by simp [joinLen, Str.join]
  | x :: y :: r => by
    have ih := join_len sep (y :: r)
    have e1 : (Str.join sep (x :: y :: r)).length = x.length + sep.length + (Str.join sep (y :: r)).length := by
      show (x ++ sep ++ Str.join sep (y :: r)).cps.size = _
      show ((x.cps ++ sep.cps) ++ (Str.join sep (y :: r)).cps).size = _
      rw [Array.size_append, Array.size_append]
      rfl
    rw [e1]
    unfold joinLen at ih ⊢
    simp only [List.map_cons, List.sum_cons, List.length_cons] at ih ⊢
    rw [Nat.add_mul _ 1 sep.length]
    omega
theorem join_all (sep : Str) (p : Nat → Bool) (hs : sep.cps.all p = true) : ∀ ss : List Str, (∀ x ∈ ss, x.cps.all p = true) → (Str.join sep ss).cps.all p = true
  | [], _ => by simp [Str.join, Str.empty]
  | [x], h => h x (List.mem_singleton.mpr rfl)
  | x :: y :: r, h => by
    have ih := join_all sep p hs (y :: r) fun z hz => h z (List.mem_cons_of_mem _ hz)
    show ((x.cps ++ sep.cps) ++ (Str.join sep (y :: r)).cps).all p = true
    rw [Array.all_append, Array.all_append, ih, hs, h x (List.mem_cons_self ..)]
    rfl
theorem mr_join : MtR X "str.join" (rmg X .join) := by
  intro pins s σ H x xs v us Q I rx rs h
  obtain ⟨A, d, ds, rfl, R, hx, hs, h⟩ := h
  match ds, hs, h with
  | [e], hs, h =>
    obtain ⟨y, rfl, h1⟩ := rvs1 hs
    cases hx with
    | str sep hsep =>
      simp only [mtSem] at h
      cases e2 : (seqOf A.S e).bind txts with
      | none => simp [e2, Go] at h
      | some ss =>
        simp only [e2] at h
        obtain ⟨l, e3, e4⟩ := Option.bind_eq_some_iff.mp e2
        split at h
        · rename_i hl
          obtain ⟨a, vs, rfl, hp, r⟩ := seqOf_rv R h1 e3
          obtain ⟨ev, hok⟩ := txts_rv r e4
          subst ev
          refine mt_join pins s σ A.H _ _ v us Q I rx rs ⟨sep, a, ss, rfl, rfl, sq_or (K := X.K) hp, hl, ?_⟩
          rw [TL.join_eq]
          exact go_val R h (.str _ ⟨Nat.le_trans (join_len sep ss) hl, join_all sep _ hsep.2 ss fun x hx => (hok x hx).2⟩)
        · exact h.elim
    | _ => simp [mtSem, Go] at h
  | [], _, h => cases hx <;> simp [mtSem, Go] at h
  | _ :: _ :: _, _, h => cases hx <;> simp [mtSem, Go] at h

/-! ### o[i] = v -/
def rset (X : Cx) : TSet := fun o i v H Q => ∃ (A : Sit) (d k e : D), A.H = H ∧ Rp X.K X.w A ∧ RV X.K X.w A o d ∧ RV X.K X.w A i k ∧ RV X.K X.w A v e ∧ GoU X.K X.w A (setitem d k e A.S) Q
theorem put_mem {κ : Type} [DecidableEq κ] {kvs : List (κ × D)} {k : κ} {d : D} {p : κ × D} (m : p ∈ Cl.put kvs k d) : p.1 = k ∨ ∃ p' ∈ kvs, p.1 = p'.1 := by
  unfold Cl.put at m
  split at m
  · obtain ⟨p', m', e⟩ := List.mem_map.mp m
    split at e
    · subst e
      exact .inr ⟨p', m', rfl⟩
    · subst e
      exact .inr ⟨p', m', rfl⟩
  · rcases List.mem_append.mp m with m | m
    · exact .inr ⟨p, m, rfl⟩
    · rw [List.mem_singleton] at m
      subst m
      exact .inl rfl
theorem pr_set (hu : X.A.units + 65 < cLine) : PSet X (rset X) := by
  intro pins s σ H o i v ov iv u Q I ro ri rv h
  obtain ⟨A, d, k, e, rfl, R, ho, hi, hv, h⟩ := h
  cases ho with
  | @ref a n hn =>
    simp only [setitem] at h
    cases hc : A.S[n]? with
    | none => simp [hc, GoU] at h
    | some c =>
      cases c with
      | lst l =>
        cases hi with
        | int j =>
          simp only [hc] at h
          obtain ⟨vs, ha, r⟩ := cell_of R hn hc
          split at h
          · rename_i p hp
            exact set_list pins s σ A.H _ _ v ov iv u Q I ro ri rv ⟨a, vs, j, p, rfl, rfl, ha, by rw [r.length]; exact hp, gou_put R hn hc rfl (ok_lst R hn hc (RVs.set hv p r)) h⟩
          · exact h.elim
        | _ => simp [hc, GoU] at h
      | dead => simp [hc, GoU] at h
      | dK kvs l =>
        cases l with
        | true => simp [hc, GoU] at h
        | false =>
          have h' : GoU X.K X.w A (match keyOf k with
              | some q => if kvs.length < line then .ok () (A.S.set n (.dK (put kvs q e) false)) else .stuck
              | none => .stuck) Q := by cases hi <;> (simp only [hc] at h; exact h)
          cases hk : keyOf k with
          | none => simp [hk, GoU] at h'
          | some q =>
            simp only [hk] at h'
            split at h'
            · rename_i hl
              obtain ⟨kv, ha, r, ok⟩ := R.cell n a _ hn hc
              have ha : A.H a = some (.dK kv) := ha
              have ei := keyOf_rv hi hk
              have okq := okK_of hi hk
              subst ei
              cases ro
              refine d_setItem (by omega) I (DPut.k ha (by rw [r.length, ← line_eq]; exact hl)) ri rv fun s' I' => ⟨_, I', ?_⟩
              exact gou_put (c' := .dK (put kvs q e) false) R hn hc rfl ⟨_, upd_same, (r.put q hv).ext (ext_put R hn hc rfl), fun p m => (put_mem m).elim (fun z => by rw [z]; exact okq) fun ⟨p', m', z⟩ => by rw [z]; exact ok p' m'⟩ h'
            · exact h'.elim
      | dT kvs l =>
        cases l with
        | true => simp [hc, GoU] at h
        | false =>
          have h' : GoU X.K X.w A (match tkeyOf k with
              | some q => if kvs.length < line then .ok () (A.S.set n (.dT (put kvs q e) false)) else .stuck
              | none => .stuck) Q := by cases hi <;> (simp only [hc] at h; exact h)
          cases hk : tkeyOf k with
          | none => simp [hk, GoU] at h'
          | some q =>
            simp only [hk] at h'
            split at h'
            · rename_i hl
              obtain ⟨kv, ha, r, ok⟩ := R.cell n a _ hn hc
              have ha : A.H a = some (.dT kv) := ha
              obtain ⟨b, ei, hb⟩ := tkeyOf_rv hi hk
              have okq := okT_of hi hk
              subst ei
              cases ro
              refine d_setItem (by omega) I (DPut.t ha hb (by rw [r.length, ← line_eq]; exact hl)) ri rv fun s' I' => ⟨_, I', ?_⟩
              exact gou_put (c' := .dT (put kvs q e) false) R hn hc rfl ⟨_, upd_same, (r.put q hv).ext (ext_put R hn hc rfl), fun p m => (put_mem m).elim (fun z => by rw [z]; exact okq) fun ⟨p', m', z⟩ => by rw [z]; exact ok p' m'⟩ h'
            · exact h'.elim
  | _ => simp [setitem, GoU] at h

/-! ### x op= y -/
theorem or_aug (op : Bop) : PIp X op.op (r2g X (augop op)) := by
  intro pins s σ H x y v u Q I rx ry h
  obtain ⟨A, d, e, rfl, R, hx, hy, h⟩ := h
  cases hx with
  | int i =>
    cases hy with
    | int j =>
      cases op with
      | add => exact iop_add pins s σ A.H _ _ v u Q I rx ry ⟨i, j, rfl, rfl, go_val R h (.int _)⟩
      | sub => exact iop_sub pins s σ A.H _ _ v u Q I rx ry ⟨i, j, rfl, rfl, go_val R h (.int _)⟩
      | _ => exact h.elim
    | _ => simp [augop, Go] at h
  | str a ha =>
    cases hy with
    | str b hb =>
      cases op with
      | add =>
        simp only [augop] at h
        split at h
        · rename_i hl
          exact iop_add_str pins s σ A.H _ _ v u Q I rx ry ⟨a, b, rfl, rfl, by rw [← line_eq]; exact hl, go_val R h (.str _ (ha.append hb hl))⟩
        · exact h.elim
      | _ => exact h.elim
    | _ => simp [augop, Go] at h
  | @ref a n hn =>
    simp only [augop] at h
    cases op with
    | add =>
      cases hc : A.S[n]? with
      | none => simp [hc, Go] at h
      | some c =>
        cases c with
        | lst l =>
          cases he : lstOf A.S e with
          | none => simp [hc, he, Go] at h
          | some l2 =>
            simp only [hc, he] at h
            split at h
            · rename_i hl
              obtain ⟨vs, ha, r⟩ := cell_of R hn hc
              obtain ⟨b, vs2, rfl, hb, r2⟩ := lstOf_rv R hy he
              exact iop_ext pins s σ A.H _ _ v u Q I rx ry ⟨a, b, vs, vs2, rfl, rfl, ha, hb, by rw [r.length, r2.length, ← line_eq]; exact hl, go_put R hn hc rfl (ok_lst R hn hc (r.append r2)) (.ref hn) h⟩
            · exact h.elim
        | _ => simp [hc, Go] at h
    | _ => simp [Go] at h
  | _ => simp [augop, Go] at h

/-! ### isinstance -/
def Ty.name : Ty → String
  | .int => "int" | .bool => "bool" | .str => "str" | .tuple => "tuple" | .list => "list" | .dict => "dict"
def kindOf (S : Store) : D → String
  | .non => "NoneType" | .bl _ => "bool" | .int _ => "int" | .str _ => "str" | .tup _ => "tuple" | .con _ => "tuple" | .scr _ => "list" | .lst _ => "list" | .dct _ _ => "dict" | .cdc _ _ => "dict"
  | .ref n => match S[n]? with
    | some (.lst _) => "list"
    | _ => "dict"
theorem kind_b : ∀ (t : Ty) (k : String), k ∈ ["NoneType", "bool", "int", "str", "tuple", "list", "dict"] → kitB k t.name = some (match t with
    | .int => k == "int" || k == "bool" | .bool => k == "bool" | .str => k == "str" | .tuple => k == "tuple" | .list => k == "list" | .dict => k == "dict") := by
  intro t
  cases t <;> decide +kernel
theorem isTy_kind {S : Store} {t : Ty} {d : D} (h : tyOk S d = true) : isTy S t d = (match t with
    | .int => kindOf S d == "int" || kindOf S d == "bool" | .bool => kindOf S d == "bool" | .str => kindOf S d == "str" | .tuple => kindOf S d == "tuple" | .list => kindOf S d == "list" | .dict => kindOf S d == "dict") := by
  cases d with
  | ref n =>
    simp only [tyOk] at h
    cases e : S[n]? with
    | none => simp [e] at h
    | some c => cases c <;> cases t <;> simp_all [isTy, kindOf]
  | scr ds => simp [tyOk] at h
  | _ => cases t <;> simp [isTy, kindOf]
theorem kind_mem (S : Store) (d : D) : kindOf S d ∈ ["NoneType", "bool", "int", "str", "tuple", "list", "dict"] := by
  cases d with
  | ref n =>
    simp only [kindOf]
    split <;> simp
  | _ => simp [kindOf]
theorem ty_x {A : Sit} (R : Rp X.K X.w A) {x : V} {d : D} (h : RV X.K X.w A x d) (e : tyOk A.S d = true) : TyX X.K A.H x (.type (kindOf A.S d)) := by
  cases h with
  | non => exact .base .non
  | bl b => exact .base (.bl b)
  | int i => exact .base (.int i)
  | str x _ => exact .base (.str x)
  | tup h _ => exact .base (.tup h)
  | con h _ =>
    rcases h (fun _ => none) with (h | ⟨_, h⟩) | ⟨o, its, n, hk, hc, _⟩
    · cases h
    · cases h
    · exact .kTuple hk hc
  | scr h _ => simp [tyOk] at e
  | lst h _ => exact .base (.lst h.1)
  | dct h _ _ => exact .base (.dK h.1)
  | cdc h _ _ =>
    obtain ⟨es, n, hk, _⟩ := h
    exact .kDict hk.at_ rfl
  | @ref a n hn =>
    simp only [tyOk] at e
    cases hc : A.S[n]? with
    | none => simp [hc] at e
    | some c =>
      have ok := R.cell n a c hn hc
      cases c with
      | lst ds =>
        obtain ⟨vs, h1, _⟩ := ok
        have ek : kindOf A.S (.ref n) = "list" := by simp [kindOf, hc]
        rw [ek]
        exact .base (.lst h1)
      | dead => simp [hc] at e
      | dK kvs l =>
        obtain ⟨kv, h1, _⟩ := ok
        have ek : kindOf A.S (.ref n) = "dict" := by simp [kindOf, hc]
        rw [ek]
        cases l with
        | false => exact .base (.dK h1)
        | true =>
          obtain ⟨o, h1⟩ := h1
          exact .fDict h1
      | dT kvs l =>
        obtain ⟨kv, h1, _⟩ := ok
        have ek : kindOf A.S (.ref n) = "dict" := by simp [kindOf, hc]
        rw [ek]
        cases l with
        | false => exact .base (.dT h1)
        | true => simp [hc] at e
theorem cr_isi (t : Ty) : CallR X (.builtin "isinstance") (fun xs H Q => ∃ (A : Sit) (x : V) (d : D), xs = [x, .ty t.name] ∧ A.H = H ∧ Rp X.K X.w A ∧ RV X.K X.w A x d ∧ tyOk A.S d = true ∧ Go X.K X.w A (.ok (.bl (isTy A.S t d)) A.S) Q) := by
  intro pins s σ H xs us Q I r h
  obtain ⟨A, x, d, rfl, rfl, R, hx, e, h⟩ := h
  refine call_isi pins s σ A.H _ us Q I r ⟨x, .ty t.name, _, _, isTy A.S t d, rfl, .ty _, ty_x R hx e, kit_ty ?_, go_val R h (.bl _)⟩
  rw [kind_b t _ (kind_mem A.S d), isTy_kind e]
end
end Cl

set_option linter.all false
set_option autoImplicit false
set_option maxRecDepth 100000
set_option maxHeartbeats 1000000
/-! Cl: enumerate over a tuple (the layer has it over a list). -/
namespace PySem
open Sem (wp)
theorem clMeetsEnum {v : Value} {o : Obj} {H : Heap → Prop} (B : Begins v o H) :
    Meets (Builtin.«enumerate.__new__» ⟨[.type "enumerate", v], []⟩) (fun _ R s => H s.heap ∧
      R (.ok (.ret (.ref (s.heap.push o).objs.size))) { s with heap := (s.heap.push o).push { cls := .type "enumerate", data := .fields #[.none, .bool false, .ref s.heap.objs.size, rawInt 0, .none, .none] } }) :=
  .of_wp fun prog w A R s h => by
    obtain ⟨hp, g, d, tk, os⟩ := s
    obtain ⟨h1, h⟩ := h
    have sub := sub_enumerate
    have it : ∀ {A' : Around} {E : Value → Shared → Prop} {Q : Value → Shared → Prop}, Q (.ref hp.objs.size) ⟨hp.push o, g, d, tk, os⟩ → wpAny (model prog w) A' (pyIter v) Q E ⟨hp, g, d, tk, os⟩ :=
      fun q => B.iter prog w _ _ ⟨hp, g, d, tk, os⟩ _ h1 q
    wp_walk using it
    refine wpAny_stack_any fun st => wpAny_pure ?_
    split
    · rename_i c _ _ _ _ _
      cases (c == Value.type "enumerate") <;> (wp_walk using it; exact ⟨_, rfl, h⟩)
    · wp_walk using it
      exact ⟨_, rfl, h⟩
theorem clEnumBegins {prog : Program} {w : World} {A : Around} {E : Value → Shared → Prop} {s : Shared} {v : Value} {o : Obj} {H : Heap → Prop} {Q : Value → Shared → Prop} (B : Begins v o H) (h1 : H s.heap)
    (h : ∀ h', IsEnum h' (s.heap.objs.size + 1) s.heap.objs.size 0 .none → h'.get? s.heap.objs.size = some o → (∀ b u, s.heap.get? b = some u → h'.get? b = some u) → Q (.ref (s.heap.objs.size + 1)) { s with heap := h' }) :
    wpAny (model prog w) A (call (.type "enumerate") [v]) Q E s := by
  refine callType_new F.called_enumerate (by decide) (F.typeCall_enumerate_1 _) (F.newCall_enumerate_1 _) (fun obj => F.args_object_init_2 obj _) F.entry_enumerate_new (clMeetsEnum B) ⟨h1, ?_⟩
  have sz : (s.heap.push o).objs.size = s.heap.objs.size + 1 := Heap.size_push ..
  have he := Heap.get?_push_size (s.heap.push o) (o := { cls := .type "enumerate", data := .fields #[.none, .bool false, .ref s.heap.objs.size, rawInt 0, .none, .none] }) rfl
  refine ⟨⟨_, he, rfl⟩, ?_⟩
  rw [sz] at he ⊢
  exact h _ he (Heap.get?_push_of_some _ (Heap.get?_push_size _ B.free)) fun b u x => Heap.get?_push_of_some _ (Heap.get?_push_of_some _ x)
end PySem

namespace Cl
open PySem PySem.Spec PyProof.Rows L2
/-- the tuple at a, each item in a new pair -/
def Iet (K : Frag) (a : Addr) : It :=
  ⟨fun i H => ∃ (xs : List V) (x : V), SqT K H a xs ∧ xs[i]? = some x,
   fun i H v H' => ∃ (T : Addr) (x : V), v = .ref T ∧ H T = none ∧ H' = upd H T (.tup [.int (i : Nat), x]) ∧ ∀ xs, SqT K H a xs → xs[i]? = some x,
   fun i H => ∃ xs : List V, SqT K H a xs ∧ xs.length ≤ i⟩
theorem tup_ne_it {h : Heap} {a it : Addr} {its : Array Value} {i : Nat} (p : IsTup h a its) (q : h.IsTupleIter it a i) : a ≠ it := fun e => by
  obtain ⟨o, h1, h2, _⟩ := p
  obtain ⟨o', h3, h4, _⟩ := q
  rw [← e, h1] at h3
  cases h3
  rw [h2] at h4
  exact absurd h4 (by decide)
theorem turn_et {P : Program} {w : World} {K : Frag} {elts : List Expr} {kk : Nat} {tpos : Pos} (a e it : Addr) :
    Turn P w K (.Tuple elts kk tpos) (Iet K a) [e, it] e (fun i h => (∃ old, IsEnum h e it ((i : Nat) : Int) old) ∧ h.IsTupleIter it a i ∧ e ≠ it) where
  mem := List.mem_cons_self ..
  obj := fun i h st b hb => by
    obtain ⟨⟨old, he⟩, ⟨o, ho, hc, hd⟩, _⟩ := st
    rcases List.mem_cons.mp hb with z | z
    · subst z
      exact ⟨_, he, fun v q => nomatch q⟩
    · rw [List.mem_singleton] at z
      subst z
      exact ⟨o, ho, fun v q => by rw [hd] at q; cases q⟩
  keep := fun i h h' st k => ⟨let ⟨old, he⟩ := st.1; ⟨old, k e (by simp) _ he⟩, st.2.1.at fun o q => k it (by simp) o q, st.2.2⟩
  item := by
    intro X hP hw hK hc i pins s σ H E I hf st hg
    subst hP hw hK
    obtain ⟨⟨old, he⟩, hit, hne⟩ := st
    obtain ⟨xs, x, hq, hx⟩ := hg
    obtain ⟨its, rv, p, hz⟩ := I.tuple hq
    obtain ⟨u, hu, ru⟩ := rv.get hx
    have hel := Heap.lt_size he
    have hil : it < s.heap.objs.size := by obtain ⟨_, q, _⟩ := hit; exact Heap.lt_size q
    have hat := tup_ne_it p hit
    have hae : e ≠ a := fun z => by
      obtain ⟨o, h1, h2, _⟩ := p
      rw [← z, he] at h1
      cases h1
      simp at h2
    have ht : s.heap.IsTuple a its.toArray := p
    have hlt : i < its.toArray.size := by
      rw [List.size_toArray]
      exact (List.getElem?_eq_some_iff.mp hu).1
    refine wpAny_pyNext_enum_itemD (Draws.tuple (A := X.A.in1) (I.ok.hd hc) it a hat its.toArray) he ⟨hit, ht⟩ hlt hne (by simp [hne, hae]) fun y h' tk hy ho st' hT hsz hk => ?_
    have ey : y = u := by
      have h1 : its.toArray[i]? = some y := hy
      rw [List.getElem?_toArray, hu] at h1
      exact (Option.some.inj h1).symm
    subst ey
    refine ⟨_, rfl, wpAny_letOwnedTupleGo_enum (s := { s with heap := h', toks := tk + 1 }) ho fun h'' he' sb => ?_⟩
    have hT2 := (sb.2 _ (Nat.ne_of_gt hel)).trans hT
    have new : ObjOk X.prog X.w (upd H s.heap.objs.size (.tup [.int (i : Nat), x])) h'' s.heap.objs.size (.tup [.int (i : Nat), x]) :=
      ⟨by show 2 ≤ sizeLine; decide, [.int i tk, y], .cons ⟨_, rfl⟩ (.cons ru .nil), ⟨_, hT2, rfl, _, rfl⟩⟩
    have J : Inv X pins σ (upd H s.heap.objs.size (.tup [.int (i : Nat), x])) { s with heap := h'', toks := tk + 1 } := by
      refine I.turnedNew (ch := [e, it]) (fun b ob hb q => ?_) hf (Nat.le_refl _) new
      have n1 : b ≠ e := fun z => hb (by simp [z])
      have n2 : b ≠ it := fun z => hb (by simp [z])
      exact (sb.2 b n1).trans (hk b ob n1 n2 q)
    refine ⟨.ref s.heap.objs.size, _, J, rfl, ⟨_, x, rfl, I.hok.fresh (Nat.le_refl _), rfl, fun ys hy => by rw [I.tuple_inj hy hq]; exact hx⟩, ⟨⟨y, ?_⟩, st'.1.at fun o q => (sb.2 it (Ne.symm hne)).trans q, hne⟩, fun b hb => ?_⟩
    · rw [show ((i + 1 : Nat) : Int) = (i : Int) + 1 by omega]
      exact he'
    · have hb' : b < s.heap.objs.size := by
        rcases List.mem_cons.mp hb with z | z
        · rw [z]; exact hel
        · rw [List.mem_singleton] at z; rw [z]; exact hil
      rw [upd_ne (Nat.ne_of_lt hb')]
      exact (hf b hb).1
  done := by
    intro X hP hw hK hc i pins s σ H E I hf st hg
    subst hP hw hK
    obtain ⟨⟨old, he⟩, hit, hne⟩ := st
    obtain ⟨xs, hq, hx⟩ := hg
    obtain ⟨its, rv, p, hz⟩ := I.tuple hq
    obtain ⟨f0, f1, f2, f3, f4, f5⟩ := hf it (by simp)
    have hl := rv.length
    have hat := tup_ne_it p hit
    have ht : s.heap.IsTuple a its.toArray := p
    have D : Draws X.prog X.w X.A.in1 it [it, a] i (fun _ _ => True) (fun j h => j = i ∧ h.IsTupleIter it a i ∧ h.IsTuple a its.toArray) := by
      refine ⟨fun j h st => ?_, fun j h h' st k => ⟨st.1, st.2.1.at fun o q => k it (by simp) o q, st.2.2.at fun o q => k a (by simp) o q⟩, fun j s' Q E' hj st hQ => ?_, fun s' Q E' st hE => ?_⟩
      · obtain ⟨o, ho, _⟩ := st.2.1
        exact ⟨o, ho⟩
      · exact absurd st.1 (Nat.ne_of_lt hj)
      · exact wpAny_nextOf_tuple_end (I.ok.hd hc) st.2.1 st.2.2 (by simp; omega) hE
    exact wpAny_pyNext_enum_endD D he ⟨rfl, hit, ht⟩ fun h' eb => ⟨rfl, I.turned (t' := s.toks) (fun b o hb q => eb b o hb q) f0 f1 f3 f4 f5⟩
  self := fun A i s Q E st h => let ⟨⟨_, he⟩, _⟩ := st; wpAny_pyIter_enum he h
theorem pi_et {X : Cx} {e : Expr} {ta : TA} {p pos tpos : Pos} {elts : List Expr} {kk : Nat} (hg : Gl X "enumerate") (hm : X.mg "enumerate" = none) (ha : PA X [e] ta) (hs : starEach [e] X.env = [(false, eval e X.env)]) :
    PI X (.Tuple elts kk tpos) (.Call (.Name "enumerate" p) [e] [] pos) (fun σ H R => ta σ H fun vs H1 => ∃ (a : Addr) (xs : List V), vs = [.ref a] ∧ SqT X.K H1 a xs ∧ R (Iet X.K a) H1) := by
  refine ⟨fun pins s σ H R I h => ?_⟩
  refine Call_ (ld_blt I hg hm boot_enumerate (PyProof.Rows.callWith_type1 (thn (ha.run pos pins s σ H _ I h) fun us s1 q => ?_) hs rfl))
  obtain ⟨vs, H1, J, r1, a, xs, ex, hq, q⟩ := q
  subst ex
  obtain ⟨u, rfl, ru⟩ := vals1 r1
  cases ru
  obtain ⟨its, rv, pt, hz⟩ := J.tuple hq
  have ht : s1.heap.IsTuple a its.toArray := pt
  refine clEnumBegins (begins_tuple a its.toArray) ht fun h' he ho k => wpAny_pyIter_enum he ?_
  refine ⟨s1.heap.objs.size + 1, [s1.heap.objs.size + 1, s1.heap.objs.size], _, _, H1, rfl, J.kept (t' := s1.toks) k, turn_et a (s1.heap.objs.size + 1) s1.heap.objs.size, ⟨⟨_, he⟩, ⟨_, ho, rfl, rfl⟩, Nat.succ_ne_self _⟩, fun b hb => ?_, q⟩
  have hle : s1.heap.objs.size ≤ b := by
    rcases List.mem_cons.mp hb with z | z
    · rw [z]; exact Nat.le_add_right _ _
    · rw [List.mem_singleton] at z; rw [z]; exact Nat.le_refl _
  exact J.fpOk hle (J.hok.fresh hle)
theorem walk_et {K : Frag} {a : Addr} {xs : List V} : Walk (Iet K a) xs.length (fun H => SqT K H a xs) (YPair (fun i => some (.int (i : Nat))) (fun i => xs[i]?)) := by
  refine ⟨fun i _ hi q => ⟨xs, xs[i], q, by simp [hi]⟩, fun _ q => ⟨xs, q, Nat.le_refl _⟩, fun i H v H' _ q y => ?_⟩
  obtain ⟨T, x, h1, h2, h3, h4⟩ := y
  exact ⟨T, _, x, h1, h2, h3, rfl, h4 xs q⟩
end Cl

set_option linter.all false
set_option autoImplicit false
set_option maxRecDepth 100000
set_option maxHeartbeats 1000000
/-! Cl: what is asked behind a result; lifts; views of the syntax; the check of an expression. -/
namespace Cl
open PySem PySem.Spec PyProof.Rows L2

section
variable {α β γ δ : Type} {K : Frag} {w : World} {mg : Str → Option Value} {W : XK} {A B : Sit}
def Pst (K : Frag) (w : World) (mg : Str → Option Value) (W : XK) (A : Sit) (rel : Sit → β → α → Prop) (r : Res α) (Q : β → Hp → Prop) : Prop := match r with
  | .ok a S1 => ∀ (v : β) (B : Sit), Ext A B → Rp K w B → B.S = S1 → rel B v a → Q v B.H
  | .exc c fs S1 => ∀ (C dd : Addr) (B : Sit) (vs : List (Str × V)), mg c = some (.ref C) → Ext A B → Rp K w B → B.S = S1 → B.H dd = some (.xd vs) → RKV K w B vs fs → W (.ref C) (some dd) B.H
  | .stuck => False
theorem pst_ext {rel : Sit → β → α → Prop} {r : Res α} {Q : β → Hp → Prop} (x : Ext A B) (h : Pst K w mg W A rel r Q) : Pst K w mg W B rel r Q := by
  cases r with
  | ok a S1 => exact fun v C y R e q => h v C (x.trans y) R e q
  | exc c fs S1 => exact fun C dd D vs m y R e hd rv => h C dd D vs m (x.trans y) R e hd rv
  | stuck => exact h
theorem pst_bind {r : Res α} {k : α → Store → Res γ} {rel : Sit → β → α → Prop} {rel' : Sit → δ → γ → Prop} {Q : β → Hp → Prop} {Q' : δ → Hp → Prop} (h : Pst K w mg W A rel' (r.bind k) Q')
    (f : ∀ (a : α) (v : β) (B : Sit), Ext A B → Rp K w B → rel B v a → r = .ok a B.S → Pst K w mg W B rel' (k a B.S) Q' → Q v B.H) : Pst K w mg W A rel r Q := by
  cases r with
  | ok a S1 =>
    intro v B x R e q
    subst e
    exact f a v B x R q rfl (pst_ext x h)
  | exc c fs S1 => exact h
  | stuck => exact h
/-- .. what follows is still asked from A on -/
theorem pst_bind0 {A0 : Sit} {r : Res α} {k : α → Store → Res γ} {rel : Sit → β → α → Prop} {rel' : Sit → δ → γ → Prop} {Q : β → Hp → Prop} {Q' : δ → Hp → Prop} (x0 : Ext A A0) (h : Pst K w mg W A rel' (r.bind k) Q')
    (f : ∀ (a : α) (v : β) (B : Sit), Ext A0 B → Rp K w B → rel B v a → r = .ok a B.S → Pst K w mg W A rel' (k a B.S) Q' → Q v B.H) : Pst K w mg W A0 rel r Q := by
  cases r with
  | ok a S1 =>
    intro v B x R e q
    subst e
    exact f a v B x R q rfl h
  | exc c fs S1 => exact pst_ext (rel := rel) (Q := Q) x0 h
  | stuck => exact h
theorem pst_ok {rel : Sit → β → α → Prop} {a : α} {v : β} {Q : β → Hp → Prop} (h : Pst K w mg W A rel (.ok a A.S) Q) (R : Rp K w A) (q : rel A v a) : Q v A.H := h v A (.refl A) R rfl q
theorem pst_at {rel : Sit → β → α → Prop} {a : α} {v : β} {S1 : Store} {Q : β → Hp → Prop} (h : Pst K w mg W A rel (.ok a S1) Q) (x : Ext A B) (R : Rp K w B) (e : B.S = S1) (q : rel B v a) : Q v B.H := h v B x R e q
theorem go_of {r : Res D} {Q : VK} (h : Pst K w mg W A (RV K w) r Q) : Go K w A r Q := by
  cases r with
  | ok a S1 => exact h
  | exc c fs S1 => trivial
  | stuck => exact h
theorem toB_ok {d : D} {S : Store} {rel : Sit → β → Bool → Prop} {Q : β → Hp → Prop} (h : Pst K w mg W A rel (toB d S) Q) : ∃ b, d = .bl b ∧ Pst K w mg W A rel (.ok b S) Q := by
  cases d with
  | bl b => exact ⟨b, rfl, h⟩
  | _ => exact h.elim
theorem rv_bl {v : V} {b : Bool} (h : RV K w A v (.bl b)) : v = .bl b := by cases h; rfl
theorem rv_int {v : V} {b : Int} (h : RV K w A v (.int b)) : v = .int b := by cases h; rfl
theorem rv_str {v : V} {b : Str} (h : RV K w A v (.str b)) : v = .str b ∧ okS b := by cases h; exact ⟨rfl, by assumption⟩
theorem bind_assoc {r : Res α} {f : α → Store → Res β} {g : β → Store → Res γ} : (r.bind f).bind g = r.bind fun a S => (f a S).bind g := by cases r <;> rfl
/-- a value that has to be a bool -/
theorem pst_toB {r : Res D} {k : Bool → Store → Res γ} {rel' : Sit → δ → γ → Prop} {Q : VK} {Q' : δ → Hp → Prop} (h : Pst K w mg W A rel' ((r.bind toB).bind k) Q')
    (f : ∀ (b : Bool) (B : Sit), Ext A B → Rp K w B → Pst K w mg W B rel' (k b B.S) Q' → Q (.bl b) B.H) : Pst K w mg W A (RV K w) r Q := by
  rw [bind_assoc] at h
  refine pst_bind h fun d v B x R rv e h1 => ?_
  cases d with
  | bl b => rw [rv_bl rv]; exact f b B x R h1
  | _ => exact h1.elim
theorem pst_toI {r : Res D} {k : Int → Store → Res γ} {rel' : Sit → δ → γ → Prop} {Q : VK} {Q' : δ → Hp → Prop} (h : Pst K w mg W A rel' (r.bind fun x S => (toI x S).bind k) Q')
    (f : ∀ (b : Int) (B : Sit), Ext A B → Rp K w B → Pst K w mg W B rel' (k b B.S) Q' → Q (.int b) B.H) : Pst K w mg W A (RV K w) r Q := by
  refine pst_bind h fun d v B x R rv e h1 => ?_
  cases d with
  | int b => rw [rv_int rv]; exact f b B x R h1
  | _ => exact h1.elim
end

/-! ### lifts -/
section
variable {α β : Type} {X : Cx} {W : WX}
def Lf (X : Cx) (W : WX) (rel : Sit → β → α → Prop) (f : Env → Store → Res α) (σ : L2.St) (H : Hp) (Q : β → Hp → Prop) : Prop :=
  ∃ (A : Sit) (ρ : Env), A.H = H ∧ Rp X.K X.w A ∧ EnvR X.K X.w A σ ρ ∧ Pst X.K X.w X.mg (WE W σ) A rel (f ρ A.S) Q
theorem lf {rel : Sit → β → α → Prop} {f : Env → Store → Res α} {A : Sit} {ρ : Env} {σ : L2.St} {Q : β → Hp → Prop} (R : Rp X.K X.w A) (en : EnvR X.K X.w A σ ρ) (h : Pst X.K X.w X.mg (WE W σ) A rel (f ρ A.S) Q) : Lf X W rel f σ A.H Q :=
  ⟨A, ρ, rfl, R, en, h⟩
abbrev rB : Sit → Bool → Bool → Prop := fun _ b c => b = c
abbrev rO : Sit → Option Int → Option Int → Prop := fun _ b c => b = c
abbrev LE (X : Cx) (W : WX) (Φ : Tab) (e : E) : TE := Lf X W (RV X.K X.w) (evE Φ e)
abbrev LT (X : Cx) (W : WX) (Φ : Tab) (e : E) : TT := Lf X W rB fun ρ S => (evE Φ e ρ S).bind toB
abbrev LA (X : Cx) (W : WX) (Φ : Tab) (es : List E) : TA := Lf X W (RVs X.K X.w) (evEs Φ es)
abbrev LO (X : Cx) (W : WX) (Φ : Tab) (e : Option E) : TO := Lf X W rO (evO Φ e)
theorem pe_mono {x : Expr} {t t' : TE} (h : PE X x t) (f : ∀ σ H Q, t' σ H Q → t σ H Q) : PE X x t' := ⟨fun pins s σ H Q I q => h.run pins s σ H Q I (f σ H Q q)⟩
theorem pt_mono {x : Expr} {t t' : TT} (h : PT X x t) (f : ∀ σ H Q, t' σ H Q → t σ H Q) : PT X x t' := ⟨fun pins s σ H Q I q => h.run pins s σ H Q I (f σ H Q q)⟩
theorem pw_mono {x : Expr} {t t' : TT} (h : PW X x t) (f : ∀ σ H Q, t' σ H Q → t σ H Q) : PW X x t' := ⟨fun wh pins s σ H Q I q => h.run wh pins s σ H Q I (f σ H Q q)⟩
theorem pa_mono {x : List Expr} {t t' : TA} (h : PA X x t) (f : ∀ σ H Q, t' σ H Q → t σ H Q) : PA X x t' := ⟨fun pos pins s σ H Q I q => h.run pos pins s σ H Q I (f σ H Q q)⟩
theorem po_mono {x : Option Expr} {t t' : TO} (h : PO X x t) (f : ∀ σ H Q, t' σ H Q → t σ H Q) : PO X x t' := ⟨fun pins s σ H Q I q => h.run pins s σ H Q I (f σ H Q q)⟩
theorem pi_mono {tg x : Expr} {t t' : TI} (h : PI X tg x t) (f : ∀ σ H Q, t' σ H Q → t σ H Q) : PI X tg x t' := ⟨fun pins s σ H Q I q => h.run pins s σ H Q I (f σ H Q q)⟩
theorem ps_mono {x : Stmt} {t t' : TS} (h : PS X x t) (f : ∀ D σ H, t' D σ H → t D σ H) : PS X x t' := ⟨fun pins s σ H D I q => h.run pins s σ H D I (f D σ H q)⟩
theorem pss_mono {x : List Stmt} {t t' : TS} (h : PSs X x t) (f : ∀ D σ H, t' D σ H → t D σ H) : PSs X x t' := ⟨fun pins s σ H D I q => h.run pins s σ H D I (f D σ H q)⟩
theorem pg_mono {x : Expr} {t t' : TG} (h : PG X x t) (f : ∀ v σ H Q, t' v σ H Q → t v σ H Q) : PG X x t' := ⟨fun pins s σ H v u Q I r q => h.run pins s σ H v u Q I r (f v σ H Q q)⟩
theorem pgs_mono {x : List Expr} {t t' : TGs} (h : PGs X x t) (f : ∀ v σ H Q, t' v σ H Q → t v σ H Q) : PGs X x t' := ⟨fun pins s σ H v u Q I r q => h.run pins s σ H v u Q I r (f v σ H Q q)⟩
theorem pe_pick {ι : Type} {x : Expr} {t : ι → TE} (h : ∀ i, PE X x (t i)) : PE X x (fun σ H Q => ∃ i, t i σ H Q) := ⟨fun pins s σ H Q I ⟨i, q⟩ => (h i).run pins s σ H Q I q⟩
theorem pi_two {tg x : Expr} {t t' : TI} (h : PI X tg x t) (h' : PI X tg x t') : PI X tg x (fun σ H Q => t σ H Q ∨ t' σ H Q) := ⟨fun pins s σ H Q I q => q.elim (h.run pins s σ H Q I) (h'.run pins s σ H Q I)⟩
end

/-! ### the table -/
/-- what a def with the reading F promises -/
def spF (K : Frag) (w : World) (mg : Str → Option Value) (np : Nat) (F : Fn) : Sp := fun vs H Q E =>
  vs.length = np ∧ ∃ (A : Sit) (ds : List D), A.H = H ∧ Rp K w A ∧ RVs K w A vs ds ∧ Pst K w mg E A (RV K w) (F ds A.S) Q
def UseOk (P : Program) (w : World) (K : Frag) (mg : Str → Option Value) (base : Heap) (k : Nat) : Use → Prop
  | .fn f ps F => ∃ (fa : Addr) (fd : FuncData), FnOk P w K mg base (L2.CX P w) k fa fd ps (spF K w mg ps.length F) ∧ mg f = some (.ref fa) ∧ PySem.W.keepIn K (.ref fa) = true ∧ Binds K fd ps []
  | .kw f ks pi F => ∃ (fa : Addr) (fd : FuncData) (ps : List Str), FnOk P w K mg base (L2.CX P w) k fa fd ps (spF K w mg ps.length F) ∧ mg f = some (.ref fa) ∧ PySem.W.keepIn K (.ref fa) = true ∧ pi.length = ps.length ∧ (∀ j ∈ pi, j < ks.length) ∧
      ∀ (s : Shared) (ws : List Value), K.In s.heap → ws.length = ks.length → BindsTo s fd ⟨[], ks.zip ws⟩ (ps.zip (perm pi ws))
  | .con x d => ∃ (v : V) (u : Value), mg x = some u ∧ RelV v u ∧ ∀ A, RV K w A v d
  | .free x => mg x = none

/-- the names of a def or a block, where they stand, its scope -/
structure Gam where
  N : List Str
  sc : Scope
  fn : Str → Bool
def Gam.blk (Γ : Gam) (scope : Scope) : Gam := ⟨Γ.N, relS scope Γ.sc, fun x => scope.names.lookup x == some .cell⟩
structure Fit (Γ : Gam) (Φ : Tab) (k : Nat) (W : WX) (X : Cx) : Prop where
  N : X.N = Γ.N
  nd : X.N.Nodup
  sc : X.env.scope = Γ.sc
  kd : Γ.sc.kind = .function
  fn : ∀ y, Γ.fn y = true → X.fn y = true
  calm : X.calm = true
  room : Room k X.A
  tk : Takes X W
  us : ∀ (i : Nat) (u : Use), Φ[i]? = some u → UseOk X.prog X.w X.K X.mg X.base k u

/-! ### views -/
def asName : Expr → Option Str
  | .Name y _ => some y
  | _ => none
theorem asName_eq {x : Expr} {y : Str} (h : asName x = some y) : ∃ p, x = .Name y p := by
  unfold asName at h
  split at h <;> cases h
  exact ⟨_, rfl⟩
def asConst : Expr → Option Const
  | .Constant c _ _ => some c
  | _ => none
theorem asConst_eq {x : Expr} {c : Const} (h : asConst x = some c) : ∃ j p, x = .Constant c j p := by
  unfold asConst at h
  split at h <;> cases h
  exact ⟨_, _, rfl⟩
def asCall : Expr → Option (Expr × List Expr × List Keyword × Pos)
  | .Call f es ks p => some (f, es, ks, p)
  | _ => none
theorem asCall_eq {x f : Expr} {es : List Expr} {ks : List Keyword} {p : Pos} (h : asCall x = some (f, es, ks, p)) : x = .Call f es ks p := by
  unfold asCall at h
  split at h <;> cases h
  rfl
def asAttr : Expr → Option (Expr × Str × Pos)
  | .Attribute o m p => some (o, m, p)
  | _ => none
theorem asAttr_eq {x o : Expr} {m : Str} {p : Pos} (h : asAttr x = some (o, m, p)) : x = .Attribute o m p := by
  unfold asAttr at h
  split at h <;> cases h
  rfl
def asBin : Expr → Option (Expr × Operator × Expr)
  | .BinOp a op b _ => some (a, op, b)
  | _ => none
theorem asBin_eq {x a b : Expr} {op : Operator} (h : asBin x = some (a, op, b)) : ∃ p, x = .BinOp a op b p := by
  unfold asBin at h
  split at h <;> cases h
  exact ⟨_, rfl⟩
def asUn : Expr → Option (UnaryOp × Expr)
  | .UnaryOp op a _ => some (op, a)
  | _ => none
theorem asUn_eq {x a : Expr} {op : UnaryOp} (h : asUn x = some (op, a)) : ∃ p, x = .UnaryOp op a p := by
  unfold asUn at h
  split at h <;> cases h
  exact ⟨_, rfl⟩
def asBool : Expr → Option (BoolOp × List Expr)
  | .BoolOp op es _ => some (op, es)
  | _ => none
theorem asBool_eq {x : Expr} {op : BoolOp} {es : List Expr} (h : asBool x = some (op, es)) : ∃ p, x = .BoolOp op es p := by
  unfold asBool at h
  split at h <;> cases h
  exact ⟨_, rfl⟩
def asIf : Expr → Option (Expr × Expr × Expr)
  | .IfExp t a b _ => some (t, a, b)
  | _ => none
theorem asIf_eq {x t a b : Expr} (h : asIf x = some (t, a, b)) : ∃ p, x = .IfExp t a b p := by
  unfold asIf at h
  split at h <;> cases h
  exact ⟨_, rfl⟩
def asCmp : Expr → Option (Expr × List CmpOp × List Expr)
  | .Compare a ops bs _ => some (a, ops, bs)
  | _ => none
theorem asCmp_eq {x a : Expr} {ops : List CmpOp} {bs : List Expr} (h : asCmp x = some (a, ops, bs)) : ∃ p, x = .Compare a ops bs p := by
  unfold asCmp at h
  split at h <;> cases h
  exact ⟨_, rfl⟩
def asTup : Expr → Option (List Expr)
  | .Tuple es _ _ => some es
  | _ => none
theorem asTup_eq {x : Expr} {es : List Expr} (h : asTup x = some es) : ∃ j p, x = .Tuple es j p := by
  unfold asTup at h
  split at h <;> cases h
  exact ⟨_, _, rfl⟩
def asList : Expr → Option (List Expr)
  | .List es _ => some es
  | _ => none
theorem asList_eq {x : Expr} {es : List Expr} (h : asList x = some es) : ∃ p, x = .List es p := by
  unfold asList at h
  split at h <;> cases h
  exact ⟨_, rfl⟩
def asDict : Expr → Option (List (Option Expr) × List Expr)
  | .Dict ks vs _ => some (ks, vs)
  | _ => none
theorem asDict_eq {x : Expr} {ks : List (Option Expr)} {vs : List Expr} (h : asDict x = some (ks, vs)) : ∃ p, x = .Dict ks vs p := by
  unfold asDict at h
  split at h <;> cases h
  exact ⟨_, rfl⟩
def asComp : Expr → Option (Expr × Expr × Expr × List Expr × Scope)
  | .ListComp el [⟨tg, it, ifs, 0⟩] sc _ => some (el, tg, it, ifs, sc)
  | _ => none
theorem asComp_eq {x el tg it : Expr} {ifs : List Expr} {sc : Scope} (h : asComp x = some (el, tg, it, ifs, sc)) : ∃ p, x = .ListComp el [⟨tg, it, ifs, 0⟩] sc p := by
  unfold asComp at h
  split at h <;> cases h
  exact ⟨_, rfl⟩
def asSub : Expr → Option (Expr × Expr)
  | .Subscript a b _ => some (a, b)
  | _ => none
theorem asSub_eq {x a b : Expr} (h : asSub x = some (a, b)) : ∃ p, x = .Subscript a b p := by
  unfold asSub at h
  split at h <;> cases h
  exact ⟨_, rfl⟩
def asSlice : Expr → Option (Option Expr × Option Expr)
  | .Slice lo hi none _ => some (lo, hi)
  | _ => none
theorem asSlice_eq {x : Expr} {lo hi : Option Expr} (h : asSlice x = some (lo, hi)) : ∃ p, x = .Slice lo hi none p := by
  unfold asSlice at h
  split at h <;> cases h
  exact ⟨_, rfl⟩
def isRev : Expr → Bool
  | .Slice none none (some (.UnaryOp .USub (.Constant (.int 1) _ _) _)) _ => true
  | _ => false
theorem isRev_eq {x : Expr} (h : isRev x = true) : ∃ j p p1 p2, x = .Slice none none (some (.UnaryOp .USub (.Constant (.int 1) j p) p1)) p2 := by
  unfold isRev at h
  split at h
  · exact ⟨_, _, _, _, rfl⟩
  · cases h
def asJoin : Expr → Option (List Expr)
  | .JoinedStr es _ => some es
  | _ => none
theorem asJoin_eq {x : Expr} {es : List Expr} (h : asJoin x = some es) : ∃ p, x = .JoinedStr es p := by
  unfold asJoin at h
  split at h <;> cases h
  exact ⟨_, rfl⟩
def asFmt : Expr → Option Expr
  | .FormattedValue e (-1) none _ => some e
  | _ => none
theorem asFmt_eq {x e : Expr} (h : asFmt x = some e) : ∃ p, x = .FormattedValue e (-1) none p := by
  unfold asFmt at h
  split at h <;> cases h
  exact ⟨_, rfl⟩
def noStar : Expr → Bool
  | .Starred _ _ => false
  | _ => true
theorem star_cons {e : Expr} {es : List Expr} {env : PySem.Env} (h : noStar e = true) : starEach (e :: es) env = (false, eval e env) :: starEach es env := by
  cases e <;> first | rfl | cases h
theorem star_any {env : PySem.Env} {pos : Pos} : ∀ {es : List Expr}, es.all noStar = true → (backTo pos (starEach es env)).any (·.1) = false
  | [], _ => rfl
  | e :: es, h => by
    rw [List.all_cons, Bool.and_eq_true] at h
    rw [star_cons h.1]
    show (false || (backTo pos (starEach es env)).any (·.1)) = false
    rw [star_any h.2]
    rfl
theorem star_all {env : PySem.Env} {pos : Pos} : ∀ {es : List Expr}, es.all noStar = true → (backTo pos (starEach es env)).all (fun x => !x.1) = true
  | [], _ => rfl
  | e :: es, h => by
    rw [List.all_cons, Bool.and_eq_true] at h
    rw [star_cons h.1]
    show (true && (backTo pos (starEach es env)).all (fun x => !x.1)) = true
    rw [star_all h.2]
    rfl
def noSlice : Expr → Bool
  | .Slice _ _ _ _ => false
  | _ => true
theorem plainIx {e : Expr} (h : noSlice e = true) (o i : Value) : subscripted e false o i = operate [o, i] (getItem o i) := by
  cases e <;> first | rfl | cases h
def noSet : Expr → Bool
  | .Set _ _ _ => false
  | _ => true
theorem noMark {op : CmpOp} {e : Expr} (h : noSet e = true) : behindInMarks op e = false := by
  cases e <;> first | rfl | cases h
theorem noFold {e : Expr} {env : PySem.Env} (h : noSet e = true) (x : Value) : foldedSetIterable e env x = pure x := by
  cases e <;> first | rfl | cases h
def noComp : Expr → Bool
  | .ListComp _ _ _ _ | .SetComp _ _ _ _ | .DictComp _ _ _ _ _ => false
  | _ => true
theorem noSwap {e : Expr} {t : Option Expr} {l : Nat} {env : PySem.Env} (h : noComp e = true) : swapsWith e t l env = pure false := by
  cases e <;> first | rfl | cases h
/-- the receiver of an attribute is no call of a bare name -/
def noBare : Expr → Bool
  | .Call (.Name _ _) [] [] _ => false
  | _ => true
theorem bare_ok {o : Expr} {m : Str} {env : PySem.Env} {t : Sem Value} (h : noBare o = true) : attributeBase o m env t = t := by
  unfold attributeBase
  split
  · rename_i i p q
    cases h
  · rfl
end Cl

set_option linter.all false
set_option autoImplicit false
set_option maxRecDepth 100000
set_option maxHeartbeats 1000000
/-! Cl: an expression's rule each. -/
namespace Cl
open PySem PySem.Spec PyProof.Rows L2

/-- as a value, as a test -/
def SE (X : Cx) (W : WX) (Φ : Tab) (e : E) (x : Expr) : Prop := PE X x (LE X W Φ e) ∧ PT X x (LT X W Φ e)
section
variable {X : Cx} {W : WX} {Φ : Tab} {Γ : Gam} {k : Nat}
theorem pt_of {x : Expr} {e : E} (h : PE X x (LE X W Φ e)) (he : ∀ whole, isTrue x X.env whole = (do let v ← whole; standAt x.pos; holding [v] (truthy v))) : PT X x (LT X W Φ e) :=
  pt_mono (pt_val h he) fun σ H Q ⟨A, ρ, eH, R, en, q⟩ => by
    subst eH
    refine lf R en (pst_bind q fun d v B x R2 rv _ h1 => ?_)
    obtain ⟨b, rfl, h2⟩ := toB_ok h1
    exact ⟨b, rv_bl rv, pst_ok h2 R2 rfl⟩
theorem se_val {x : Expr} {e : E} (h : PE X x (LE X W Φ e)) (he : ∀ whole, isTrue x X.env whole = (do let v ← whole; standAt x.pos; holding [v] (truthy v))) : SE X W Φ e x := ⟨h, pt_of h he⟩

def nmOk (y : Str) : Bool := !(y == ("__debug__" : Str)) && !(y == ("__classdict__" : Str)) && decide (y ≠ "__name__")
theorem nm_d {y : Str} (h : nmOk y = true) : (y == ("__debug__" : Str)) = false := by
  unfold nmOk at h
  rw [Bool.and_eq_true, Bool.and_eq_true] at h
  simpa using h.1.1
theorem nm_c {y : Str} (h : nmOk y = true) : (y == ("__classdict__" : Str)) = false := by
  unfold nmOk at h
  rw [Bool.and_eq_true, Bool.and_eq_true] at h
  simpa using h.1.2
theorem nm_n {y : Str} (h : nmOk y = true) : y ≠ "__name__" := by
  unfold nmOk at h
  rw [Bool.and_eq_true, Bool.and_eq_true] at h
  exact of_decide_eq_true h.2
def visB (sc : Scope) (y : Str) : Bool := match sc.names.lookup y with
  | some .local | some .cell | some .free => true
  | _ => false
def Gam.vis (Γ : Gam) (i : Nat) (y : Str) : Bool := decide (Γ.N[i]? = some y) && visB Γ.sc y && nmOk y
def Gam.glb (Γ : Gam) (y : Str) : Bool := decide (Γ.sc.names.lookup y = some .globalImplicit) && nmOk y
def Gam.loc (Γ : Gam) (i : Nat) (y : Str) : Bool := decide (Γ.N[i]? = some y) && (decide (Γ.sc.names.lookup y = some .local) || (decide (Γ.sc.names.lookup y = some .cell) && Γ.fn y))
def isFree (Φ : Tab) (y : Str) : Bool := Φ.any fun u => match u with
  | .free z => decide (z = y)
  | _ => false
theorem Fit.gl (F : Fit Γ Φ k W X) {y : Str} (h : Γ.glb y = true) : Gl X y ∧ nmOk y = true := by
  unfold Gam.glb at h
  rw [Bool.and_eq_true, decide_eq_true_eq] at h
  refine ⟨?_, h.2⟩
  show X.env.scope.names.lookup y = _
  rw [F.sc]
  exact h.1
theorem Fit.free (F : Fit Γ Φ k W X) {y : Str} (h : isFree Φ y = true) : X.mg y = none := by
  unfold isFree at h
  rw [List.any_eq_true] at h
  obtain ⟨u, hu, h⟩ := h
  obtain ⟨i, hi⟩ := List.getElem?_of_mem hu
  split at h
  · rw [← of_decide_eq_true h]
    exact F.us i _ hi
  · cases h

theorem lt_ {e : E} {A : Sit} {ρ : Env} {σ : L2.St} {Q : Bool → Hp → Prop} (R : Rp X.K X.w A) (en : EnvR X.K X.w A σ ρ) (h : Pst X.K X.w X.mg (WE W σ) A rB ((evE Φ e ρ A.S).bind toB) Q) : LT X W Φ e σ A.H Q := ⟨A, ρ, rfl, R, en, h⟩

/-! ### names, constants -/
theorem se_var {i : Nat} {y : Str} {p : Pos} (F : Fit Γ Φ k W X) (h : Γ.vis i y = true) : SE X W Φ (.var i) (.Name y p) := by
  unfold Gam.vis at h
  rw [Bool.and_eq_true, Bool.and_eq_true, decide_eq_true_eq] at h
  obtain ⟨⟨h1, h2⟩, h3⟩ := h
  refine se_val (pe_mono (pe_var (i := i) (by rw [F.N]; exact h1) ?_ (nm_d h3) (nm_c h3)) fun σ H Q ⟨A, ρ, eH, R, en, q⟩ => ?_) fun _ => rfl
  · unfold visB at h2
    unfold Vis
    rw [F.sc]
    split at h2
    · exact .inl (by assumption)
    · exact .inr (.inl (by assumption))
    · exact .inr (.inr (by assumption))
    · cases h2
  · subst eH
    simp only [evE] at q
    split at q
    · rename_i d e
      obtain ⟨v, h4, h5⟩ := en.2 i d e
      exact ⟨v, h4, pst_ok q R h5⟩
    · exact q.elim
def okSb (x : Str) : Bool := decide (x.length ≤ line) && x.cps.all fun c => decide (c < 0x110000)
theorem okS_of {x : Str} (h : okSb x = true) : okS x := by
  unfold okSb at h
  rw [Bool.and_eq_true, decide_eq_true_eq] at h
  exact h
def litB : D → Const → Bool
  | .non, .none => true
  | .bl b, .bool c => b == c
  | .int i, .int j => decide (i = j)
  | .str x, .str y => decide (x = y) && okSb x
  | _, _ => false
theorem se_lit {d : D} {c : Const} {j : Nat} {p : Pos} (h : litB d c = true) : SE X W Φ (.lit d) (.Constant c j p) := by
  refine se_val ?_ fun _ => rfl
  have go : ∀ {v : V}, (∀ A, RV X.K X.w A v d) → PE X (.Constant c j p) (tC v) → PE X (.Constant c j p) (LE X W Φ (.lit d)) := fun {v} r h => pe_mono h fun σ H Q ⟨A, ρ, eH, R, en, q⟩ => by
    subst eH
    simp only [evE] at q
    exact pst_ok q R (r A)
  unfold litB at h
  split at h
  · exact go (fun A => .non) pe_non
  · have e := beq_iff_eq.mp h
    subst e
    exact go (fun A => .bl _) pe_bl
  · have e := of_decide_eq_true h
    subst e
    exact go (fun A => .int _) pe_int
  · rw [Bool.and_eq_true, decide_eq_true_eq] at h
    obtain ⟨e, h⟩ := h
    subst e
    exact go (fun A => .str _ (okS_of h)) pe_str
  · cases h
theorem se_glo {i : Nat} {y : Str} {d : D} {p : Pos} (F : Fit Γ Φ k W X) (h : Γ.glb y = true) (hu : Φ[i]? = some (.con y d)) : SE X W Φ (.glo i) (.Name y p) := by
  obtain ⟨h1, h2⟩ := F.gl h
  obtain ⟨v, u, h3, h4, h5⟩ := F.us i _ hu
  refine se_val (pe_mono (pe_glob h1 h3 h4 (nm_d h2)) fun σ H Q ⟨A, ρ, eH, R, en, q⟩ => ?_) fun _ => rfl
  subst eH
  simp only [evE, hu] at q
  exact pst_ok q R (h5 A)

/-! ### lists of expressions -/
theorem sa_nil : PA X [] (LA X W Φ []) := pa_mono pa_nil fun σ H Q ⟨A, ρ, eH, R, en, q⟩ => by
  subst eH
  simp only [evEs] at q
  exact pst_ok q R .nil
theorem sa_cons {x : Expr} {xs : List Expr} {e : E} {es : List E} (h : PE X x (LE X W Φ e)) (r : PA X xs (LA X W Φ es)) (hs : noStar x = true) : PA X (x :: xs) (LA X W Φ (e :: es)) :=
  pa_mono (pa_cons h r (star_cons hs)) fun σ H Q ⟨A, ρ, eH, R, en, q⟩ => by
    subst eH
    simp only [evEs] at q
    exact lf R en (pst_bind q fun d v B x R2 rv _ h1 => lf R2 (en.ext x) (pst_bind h1 fun ds vs C y R3 rs _ h2 => pst_ok h2 R3 (.cons (rv.ext y) rs)))
theorem evEs_length : ∀ {es : List E} {ρ : Env} {S S1 : Store} {ds : List D}, evEs Φ es ρ S = .ok ds S1 → ds.length = es.length
  | [], _, _, _, _, h => by
    simp only [evEs] at h
    cases h
    rfl
  | e :: es, ρ, S, S1, ds, h => by
    simp only [evEs] at h
    cases h1 : evE Φ e ρ S with
    | ok d S2 =>
      rw [h1, Res.bind_ok] at h
      cases h2 : evEs Φ es ρ S2 with
      | ok ds2 S3 =>
        rw [h2, Res.bind_ok] at h
        cases h
        rw [List.length_cons, List.length_cons, evEs_length h2]
      | exc c fs S3 => rw [h2] at h; cases h
      | stuck => rw [h2] at h; cases h
    | exc c fs S3 => rw [h1] at h; cases h
    | stuck => rw [h1] at h; cases h

/-! ### calls of defs -/
theorem se_call {i : Nat} {f : Str} {ps : List Str} {Fn' : Fn} {p pos : Pos} {x : Expr} {xs : List Expr} {as : List E} (F : Fit Γ Φ k W X) (h : Γ.glb f = true) (hu : Φ[i]? = some (.fn f ps Fn')) (hl : as.length = ps.length)
    (ha : PA X (x :: xs) (LA X W Φ as)) (hs : (x :: xs).all noStar = true) : SE X W Φ (.call i as) (.Call (.Name f p) (x :: xs) [] pos) := by
  obtain ⟨h1, h2⟩ := F.gl h
  obtain ⟨fa, fd, Fo, h3, h4, h5⟩ := F.us i _ hu
  rw [List.all_cons, Bool.and_eq_true] at hs
  refine se_val (pe_mono (pe_callS (E := WE W) Fo F.room h1 h3 h4 h5 (fun σ => passAt F.tk σ) ha (nm_d h2) (star_cons hs.1) (star_any hs.2)) fun σ H Q ⟨A, ρ, eH, R, en, q⟩ => ?_) fun _ => rfl
  subst eH
  simp only [evE] at q
  refine lf R en (pst_bind q fun ds vs B x R2 rv e h1 => ⟨?_, B, ds, rfl, R2, rv, ?_⟩)
  · rw [rv.length, evEs_length e, hl]
  · simp only [callU, hu] at h1
    exact h1

/-! ### operators -/
theorem se_bin {op : Bop} {nw : Bool} {a b : Expr} {ea eb : E} {p : Pos} (ha : PE X a (LE X W Φ ea)) (hb : PE X b (LE X W Φ eb)) : SE X W Φ (.bin op nw ea eb) (.BinOp a op.op b p) :=
  se_val (pe_mono (pe_op (or_bin nw op) ha hb) fun σ H Q ⟨A, ρ, eH, R, en, q⟩ => by
    subst eH
    simp only [evE] at q
    exact lf R en (pst_bind q fun d v B x R2 rv _ h1 => lf R2 (en.ext x) (pst_bind h1 fun d2 u C y R3 ru _ h2 => ⟨C, d, d2, rfl, R3, rv.ext y, ru, go_of h2⟩))) fun _ => rfl
theorem se_neg {a : Expr} {ea : E} {p : Pos} (ha : PE X a (LE X W Φ ea)) : SE X W Φ (.neg ea) (.UnaryOp .USub a p) :=
  se_val (pe_mono (pe_un un_neg ha) fun σ H Q ⟨A, ρ, eH, R, en, q⟩ => by
    subst eH
    simp only [evE] at q
    exact lf R en (pst_toI q fun i B x R2 h1 => ⟨i, rfl, pst_ok h1 R2 (.int _)⟩)) fun _ => rfl
theorem se_not {a : Expr} {ea : E} {p : Pos} (ha : SE X W Φ ea a) : SE X W Φ (.not_ ea) (.UnaryOp .Not a p) := by
  refine ⟨pe_mono (pe_not ha.1) fun σ H Q ⟨A, ρ, eH, R, en, q⟩ => ?_, pt_mono (pt_not ha.2) fun σ H Q ⟨A, ρ, eH, R, en, q⟩ => ?_⟩
  · subst eH
    simp only [evE] at q
    exact lf R en (pst_toB q fun b B x R2 h1 => ⟨b, rfl, pst_ok h1 R2 (.bl _)⟩)
  · subst eH
    simp only [evE] at q
    rw [bind_assoc] at q
    refine lt_ R en (pst_bind (rel := rB) q fun c b B x R2 e _ h1 => ?_)
    cases e
    exact pst_ok (show Pst _ _ _ _ _ rB (.ok (!c) B.S) Q from h1) R2 rfl
theorem se_ife {t a b : Expr} {et ea eb : E} {p : Pos} (ht : SE X W Φ et t) (ha : SE X W Φ ea a) (hb : SE X W Φ eb b) : PE X (.IfExp t a b p) (LE X W Φ (.ife et ea eb)) :=
  pe_mono (pe_ifExp ht.2 ha.1 hb.1) fun σ H Q ⟨A, ρ, eH, R, en, q⟩ => by
    subst eH
    simp only [evE] at q
    refine lt_ R en (pst_bind (rel := rB) q fun c b B x R2 e _ h1 => ?_)
    cases e
    cases c with
    | true => exact lf R2 (en.ext x) h1
    | false => exact lf R2 (en.ext x) h1
theorem se_cmp {op : Cop} {a b : Expr} {ea eb : E} {p : Pos} (F : Fit Γ Φ k W X) (ha : PE X a (LE X W Φ ea)) (hb : PE X b (LE X W Φ eb)) (hm : noSet b = true) : SE X W Φ (.cmp op ea eb) (.Compare a [op.op] [b] p) := by
  have hu : X.A.units + 65 < cLine := by have := F.room.un; omega
  have lift : ∀ {σ : L2.St} {H : Hp} {Q : VK}, LE X W Φ (.cmp op ea eb) σ H Q → tOp (r2g X (cmpop op)) (LE X W Φ ea) (LE X W Φ eb) σ H Q := fun {σ H Q} ⟨A, ρ, eH, R, en, q⟩ => by
    subst eH
    simp only [evE] at q
    exact lf R en (pst_bind q fun d v B x R2 rv _ h1 => lf R2 (en.ext x) (pst_bind h1 fun d2 u C y R3 ru _ h2 => ⟨C, d, d2, rfl, R3, rv.ext y, ru, go_of h2⟩))
  refine ⟨pe_mono (pe_cmpR (or_cmp hu op) ha hb (noMark hm)) fun σ H Q q => lift q, pt_mono (pt_cmpR (or_cmp hu op) ha hb (noMark hm)) fun σ H Q q => lift ?_⟩
  obtain ⟨A, ρ, eH, R, en, q⟩ := q
  subst eH
  refine lf R en (pst_bind q fun d v B x R2 rv _ h1 => ?_)
  obtain ⟨b, rfl, h2⟩ := toB_ok h1
  exact ⟨b, rv_bl rv, pst_ok h2 R2 rfl⟩
theorem se_cmp2 {o1 o2 : Cop} {a b c : Expr} {ea eb ec : E} {p : Pos} (F : Fit Γ Φ k W X) (ha : PE X a (LE X W Φ ea)) (hb : PE X b (LE X W Φ eb)) (hc : PE X c (LE X W Φ ec)) (hm : noSet b = true) (hm2 : noSet c = true) :
    SE X W Φ (.cmp2 o1 o2 ea eb ec) (.Compare a [o1.op, o2.op] [b, c] p) := by
  have hu : X.A.units + 65 < cLine := by have := F.room.un; omega
  have lift : ∀ {σ : L2.St} {H : Hp} {Q : VK}, LE X W Φ (.cmp2 o1 o2 ea eb ec) σ H Q → tChain (r2g X (cmpop o1)) (r2g X (cmpop o2)) (LE X W Φ ea) (LE X W Φ eb) (LE X W Φ ec) σ H Q := fun {σ H Q} ⟨A, ρ, eH, R, en, q⟩ => by
    subst eH
    simp only [evE] at q
    refine lf R en (pst_bind q fun d v B x R2 rv _ h1 => lf R2 (en.ext x) (pst_bind h1 fun d2 u C y R3 ru _ h2 => ⟨C, d, d2, rfl, R3, rv.ext y, ru, go_of (pst_toB h2 fun k G z R4 h3 => ⟨k, rfl, ?_⟩)⟩))
    cases k with
    | true => exact lf R4 (((en.ext x).ext y).ext z) (pst_bind h3 fun d3 u3 G2 z2 R5 ru3 _ h4 => ⟨G2, d2, d3, rfl, R5, (ru.ext z).ext z2, ru3, go_of h4⟩)
    | false => exact pst_ok (show Pst _ _ _ _ _ (RV X.K X.w) (.ok (D.bl false) G.S) Q from h3) R4 (.bl _)
  have hmm : lastMarks [o1.op, o2.op] [b, c] = false := noMark hm2
  refine ⟨pe_mono (pe_chain (or_cmp hu o1) (or_cmp hu o2) ha hb hc hmm) fun σ H Q q => lift q, pt_mono (pt_chain (or_cmp hu o1) (or_cmp hu o2) ha hb hc hmm) fun σ H Q q => lift ?_⟩
  obtain ⟨A, ρ, eH, R, en, q⟩ := q
  subst eH
  refine lf R en (pst_bind q fun d v B x R2 rv _ h1 => ?_)
  obtain ⟨b, rfl, h2⟩ := toB_ok h1
  exact ⟨b, rv_bl rv, pst_ok h2 R2 rfl⟩
end
end Cl

set_option linter.all false
set_option autoImplicit false
set_option maxRecDepth 100000
set_option maxHeartbeats 1000000
/-! Cl: rules, second part: and, or, displays, built-in calls, methods, places. -/
namespace Cl
open PySem PySem.Spec PyProof.Rows L2

section
variable {X : Cx} {W : WX} {Φ : Tab} {Γ : Gam} {k : Nat}
inductive SEs (X : Cx) (W : WX) (Φ : Tab) : List E → List Expr → Prop
  | nil : SEs X W Φ [] []
  | cons {e : E} {x : Expr} {es : List E} {xs : List Expr} (h : SE X W Φ e x) (n : noStar x = true) (r : SEs X W Φ es xs) : SEs X W Φ (e :: es) (x :: xs)
theorem SEs.pa {es : List E} {xs : List Expr} (h : SEs X W Φ es xs) : PA X xs (LA X W Φ es) := by
  induction h with
  | nil => exact sa_nil
  | cons h n r ih => exact sa_cons h.1 ih n
theorem SEs.star {es : List E} {xs : List Expr} (h : SEs X W Φ es xs) : xs.all noStar = true := by
  induction h with
  | nil => rfl
  | cons h n r ih => rw [List.all_cons, n, ih]; rfl
theorem SEs.len {es : List E} {xs : List Expr} (h : SEs X W Φ es xs) : es.length = xs.length := by
  induction h with
  | nil => rfl
  | cons h n r ih => rw [List.length_cons, List.length_cons, ih]

/-! ### and, or -/
theorem sb_and {p : Pos} {es : List E} {xs : List Expr} (h : SEs X W Φ es xs) : xs ≠ [] →
    PE X (.BoolOp .And xs p) (fun σ H Q => Lf X W rB (evAnd Φ es) σ H fun b H1 => Q (.bl b) H1) ∧ PW X (.BoolOp .And xs p) (Lf X W rB (evAnd Φ es)) := by
  induction h with
  | nil => exact fun z => absurd rfl z
  | @cons e x es xs h n r ih =>
    intro _
    cases r with
    | nil =>
      refine ⟨pe_mono (pe_one h.1) fun σ H Q ⟨A, ρ, eH, R, en, q⟩ => ?_, pw_mono (pw_and1 h.2) fun σ H Q ⟨A, ρ, eH, R, en, q⟩ => ?_⟩
      · subst eH
        simp only [evAnd] at q
        refine lf R en (pst_toB q fun b B x R2 h1 => ?_)
        cases b with
        | true => exact pst_ok (rel := rB) (a := true) h1 R2 rfl
        | false => exact pst_ok (rel := rB) (a := false) h1 R2 rfl
      · subst eH
        simp only [evAnd] at q
        refine lt_ R en (pst_bind (rel := rB) q fun c b B x R2 e _ h1 => ?_)
        cases e
        cases c with
        | true => exact pst_ok (rel := rB) (a := true) h1 R2 rfl
        | false => exact pst_ok (rel := rB) (a := false) h1 R2 rfl
    | @cons e2 x2 es2 xs2 h2 n2 r2 =>
      obtain ⟨i1, i2⟩ := ih (by simp)
      refine ⟨pe_mono (pe_and h.1 i1) fun σ H Q ⟨A, ρ, eH, R, en, q⟩ => ?_, pw_mono (pw_and h.2 i2) fun σ H Q ⟨A, ρ, eH, R, en, q⟩ => ?_⟩
      · subst eH
        rw [evAnd] at q
        refine lf R en (pst_toB q fun b B x R2 h1 => ⟨b, rfl, ?_⟩)
        cases b with
        | true => exact lf R2 (en.ext x) h1
        | false => exact pst_ok (rel := rB) (a := false) h1 R2 rfl
      · subst eH
        rw [evAnd] at q
        refine lt_ R en (pst_bind (rel := rB) q fun c b B x R2 e _ h1 => ?_)
        cases e
        cases c with
        | true => exact lf R2 (en.ext x) h1
        | false => exact pst_ok (rel := rB) (a := false) h1 R2 rfl
theorem sb_or {p : Pos} {es : List E} {xs : List Expr} (h : SEs X W Φ es xs) : xs ≠ [] →
    PE X (.BoolOp .Or xs p) (fun σ H Q => Lf X W rB (evOr Φ es) σ H fun b H1 => Q (.bl b) H1) ∧ PW X (.BoolOp .Or xs p) (Lf X W rB (evOr Φ es)) := by
  induction h with
  | nil => exact fun z => absurd rfl z
  | @cons e x es xs h n r ih =>
    intro _
    cases r with
    | nil =>
      refine ⟨pe_mono (pe_one h.1) fun σ H Q ⟨A, ρ, eH, R, en, q⟩ => ?_, pw_mono (pw_or1 h.2) fun σ H Q ⟨A, ρ, eH, R, en, q⟩ => ?_⟩
      · subst eH
        simp only [evOr] at q
        refine lf R en (pst_toB q fun b B x R2 h1 => ?_)
        cases b with
        | true => exact pst_ok (rel := rB) (a := true) h1 R2 rfl
        | false => exact pst_ok (rel := rB) (a := false) h1 R2 rfl
      · subst eH
        simp only [evOr] at q
        refine lt_ R en (pst_bind (rel := rB) q fun c b B x R2 e _ h1 => ?_)
        cases e
        cases c with
        | true => exact pst_ok (rel := rB) (a := true) h1 R2 rfl
        | false => exact pst_ok (rel := rB) (a := false) h1 R2 rfl
    | @cons e2 x2 es2 xs2 h2 n2 r2 =>
      obtain ⟨i1, i2⟩ := ih (by simp)
      refine ⟨pe_mono (pe_or h.1 i1) fun σ H Q ⟨A, ρ, eH, R, en, q⟩ => ?_, pw_mono (pw_or h.2 i2) fun σ H Q ⟨A, ρ, eH, R, en, q⟩ => ?_⟩
      · subst eH
        rw [evOr] at q
        refine lf R en (pst_toB q fun b B x R2 h1 => ⟨b, rfl, ?_⟩)
        cases b with
        | true => exact pst_ok (rel := rB) (a := true) h1 R2 rfl
        | false => exact lf R2 (en.ext x) h1
      · subst eH
        rw [evOr] at q
        refine lt_ R en (pst_bind (rel := rB) q fun c b B x R2 e _ h1 => ?_)
        cases e
        cases c with
        | true => exact pst_ok (rel := rB) (a := true) h1 R2 rfl
        | false => exact lf R2 (en.ext x) h1
theorem bl_lift {e : E} {x : Expr} {f : Env → Store → Res Bool} (he : ∀ ρ S, evE Φ e ρ S = (f ρ S).bind fun b S1 => .ok (.bl b) S1)
    (h : PE X x (fun σ H Q => Lf X W rB f σ H fun b H1 => Q (.bl b) H1) ∧ PW X x (Lf X W rB f)) : SE X W Φ e x := by
  refine ⟨pe_mono h.1 fun σ H Q ⟨A, ρ, eH, R, en, q⟩ => ?_, pt_mono h.2.pt fun σ H Q ⟨A, ρ, eH, R, en, q⟩ => ?_⟩
  · subst eH
    rw [he] at q
    exact lf R en (pst_bind q fun a v B x R2 e _ h1 => pst_ok h1 R2 (by cases e; exact .bl _))
  · subst eH
    simp only [he] at q
    rw [bind_assoc] at q
    exact lf R en (pst_bind q fun a v B x R2 e _ h1 => pst_ok (rel := rB) (a := a) h1 R2 e)
theorem se_and {p : Pos} {es : List E} {xs : List Expr} (h : SEs X W Φ es xs) (n : xs ≠ []) : SE X W Φ (.and_ es) (.BoolOp .And xs p) := bl_lift (fun ρ S => by simp only [evE]) (sb_and h n)
theorem se_or {p : Pos} {es : List E} {xs : List Expr} (h : SEs X W Φ es xs) (n : xs ≠ []) : SE X W Φ (.or_ es) (.BoolOp .Or xs p) := bl_lift (fun ρ S => by simp only [evE]) (sb_or h n)

/-! ### displays -/
theorem se_tup {j : Nat} {p : Pos} {es : List E} {xs : List Expr} (h : SEs X W Φ es xs) (hl : es.length ≤ line) : SE X W Φ (.tup es) (.Tuple xs j p) :=
  se_val (pe_mono (pe_tup h.pa) fun σ H Q ⟨A, ρ, eH, R, en, q⟩ => by
    subst eH
    simp only [evE] at q
    exact lf R en (pst_bind q fun ds vs B x R2 rv e h1 => ⟨by rw [rv.length, evEs_length e, ← line_eq]; exact hl, fun p hp => go_tup R2 (go_of h1) rv hp⟩)) fun _ => rfl
theorem se_lst {nw : Bool} {p : Pos} {es : List E} {xs : List Expr} (h : SEs X W Φ es xs) (hl : es.length ≤ line) : SE X W Φ (.lst nw es) (.List xs p) :=
  se_val (pe_mono (pe_lst h.pa) fun σ H Q ⟨A, ρ, eH, R, en, q⟩ => by
    subst eH
    simp only [evE] at q
    exact lf R en (pst_bind q fun ds vs B x R2 rv e h1 => ⟨by rw [rv.length, evEs_length e, ← line_eq]; exact hl, fun p hp => go_mk R2 (go_of h1) rv hp⟩)) fun _ => rfl
theorem se_dict0 {p : Pos} : SE X W Φ .dict0 (.Dict [] [] p) :=
  se_val (pe_mono pe_dnewT fun σ H Q ⟨A, ρ, eH, R, en, q⟩ p hp => by
    subst eH
    simp only [evE] at q
    refine pst_at q (ext_cell R hp (c := .dT [] false)) (rp_cell R hp ⟨[], upd_same, .nil, fun _ m => nomatch m⟩) rfl (.ref ?_)
    rw [← R.len]
    exact go_mk.getElem?_snoc_self) fun _ => rfl
/-- the readings of the pairs -/
def trs (X : Cx) (W : WX) (Φ : Tab) : List E → List (TE × TE)
  | a :: b :: r => (LE X W Φ a, LE X W Φ b) :: trs X W Φ r
  | _ => []
def flat : List (Option Expr) → List Expr → List Expr
  | some a :: ks, b :: vs => a :: b :: flat ks vs
  | _, _ => []
def flatV : List (V × V) → List V
  | [] => []
  | (a, b) :: r => a :: b :: flatV r
theorem tp_sound : ∀ (n : Nat) {es : List E} {σ : L2.St} {H : Hp} {Q : List (V × V) → Hp → Prop}, es.length = 2 * n →
    Lf X W (fun B ps ds => RVs X.K X.w B (flatV ps) ds) (evEs Φ es) σ H Q → tPairs (trs X W Φ es) σ H Q
  | 0, [], σ, H, Q, _, ⟨A, ρ, eH, R, en, q⟩ => by
    subst eH
    simp only [evEs] at q
    exact pst_ok (v := ([] : List (V × V))) q R .nil
  | n + 1, a :: b :: r, σ, H, Q, hl, ⟨A, ρ, eH, R, en, q⟩ => by
    subst eH
    simp only [evEs] at q
    refine lf R en (pst_bind q fun d v B x R2 rv _ h1 => ?_)
    rw [bind_assoc] at h1
    refine lf R2 (en.ext x) (pst_bind h1 fun d2 v2 C y R3 rv2 _ h2 => tp_sound n (by simp only [List.length_cons] at hl; omega) (lf R3 ((en.ext x).ext y) ?_))
    rw [bind_assoc] at h2
    exact pst_bind h2 fun ds ps G z R4 rs _ h3 => pst_ok (v := (v, v2) :: ps) h3 R4 (.cons ((rv.ext y).ext z) (.cons (rv2.ext z) rs))
  | 0, _ :: _, _, _, _, hl, _ => by simp at hl
  | n + 1, [], _, _, _, hl, _ => by simp at hl
  | n + 1, [_], _, _, _, hl, _ => by simp only [List.length_cons, List.length_nil] at hl; omega
theorem pps_of {pos : Pos} : ∀ {ks : List (Option Expr)} {vs : List Expr} {es : List E}, ks.length = vs.length → ks.all (·.isSome) = true → SEs X W Φ es (flat ks vs) → PPs X pos ks vs (trs X W Φ es) ∧ es.length = 2 * ks.length
  | [], [], es, _, _, h => by
    cases h
    exact ⟨pps_nil, rfl⟩
  | some a :: ks, b :: vs, es, hl, ha, h => by
    cases h with
    | cons h1 n1 r => cases r with
      | cons h2 n2 r =>
        obtain ⟨i1, i2⟩ := pps_of (pos := pos) (by simpa using hl) (by simpa using ha) r
        exact ⟨pps_cons h1.1 h2.1 i1, by simp only [List.length_cons, i2]; omega⟩
  | none :: ks, b :: vs, es, hl, ha, h => by simp at ha
theorem kv_of {K : Frag} {w : World} {B : Sit} : ∀ {ps : List (V × V)} {ds : List D} {kvs : List (Key × D)}, RVs K w B (flatV ps) ds → kvOf ds = some kvs →
    ∃ kv : List (Key × V), ps = kv.map (fun p => (kV p.1, p.2)) ∧ RKV K w B kv kvs ∧ ∀ p ∈ kvs, okK p.1
  | [], ds, kvs, r, e => by
    cases r
    simp only [kvOf] at e
    cases e
    exact ⟨[], rfl, .nil, fun _ m => nomatch m⟩
  | (a, b) :: ps, ds, kvs, r, e => by
    cases r with
    | cons h1 r => cases r with
      | @cons _ d2 _ ds2 h2 r =>
        rename_i d1
        simp only [kvOf] at e
        split at e
        · rename_i q l e1 e2
          split at e
          · cases e
          · cases e
            obtain ⟨kv, i1, i2, i3⟩ := kv_of r e2
            refine ⟨(q, b) :: kv, by rw [List.map_cons, i1, keyOf_rv h1 e1], .cons h2 i2, fun p m => ?_⟩
            rcases List.mem_cons.mp m with rfl | m
            · exact okK_of h1 e1
            · exact i3 p m
        · cases e
theorem look_none {κ : Type} [DecidableEq κ] : ∀ {l : List (κ × D)} {q : κ}, look l q = none → ∀ p ∈ l, p.1 ≠ q
  | [], _, _, _, m => nomatch m
  | (k, v) :: l, q, h, p, m => by
    unfold look at h
    split at h
    · cases h
    · rename_i ne
      rcases List.mem_cons.mp m with e | m
      · rw [e]; exact ne
      · exact look_none h p m
theorem kv_dist : ∀ {ds : List D} {kvs : List (Key × D)}, kvOf ds = some kvs → (kvs.map (·.1)).Nodup
  | [], kvs, h => by
    simp only [kvOf] at h
    cases h
    exact List.nodup_nil
  | [_], kvs, h => by simp [kvOf] at h
  | a :: b :: ds, kvs, h => by
    simp only [kvOf] at h
    split at h
    · rename_i q l e1 e2
      split at h
      · cases h
      · rename_i hn
        cases h
        rw [List.map_cons, List.nodup_cons]
        refine ⟨fun m => ?_, kv_dist e2⟩
        obtain ⟨p, m, e⟩ := List.mem_map.mp m
        have z : look l q = none := by simpa using hn
        exact look_none z p m e
    · cases h
theorem merge_dist : ∀ {more kvs : List (Key × V)}, (kvs.map (·.1) ++ more.map (·.1)).Nodup → mergeK kvs more = kvs ++ more
  | [], kvs, _ => by simp [mergeK]
  | (q, v) :: more, kvs, h => by
    have e : putK kvs q v = kvs ++ [(q, v)] := by
      unfold putK
      rw [if_neg]
      intro z
      rw [List.any_eq_true] at z
      obtain ⟨p, m, z⟩ := z
      have z := of_decide_eq_true z
      rw [List.nodup_append] at h
      exact h.2.2 p.1 (List.mem_map.mpr ⟨p, m, rfl⟩) q (by simp) z
    show mergeK (putK kvs q v) more = _
    rw [e, merge_dist (by simpa using h), List.append_assoc]
    rfl
theorem RKV.keys {K : Frag} {w : World} {B : Sit} {κ : Type} {kv : List (κ × V)} {kvs : List (κ × D)} (r : RKV K w B kv kvs) : kv.map (·.1) = kvs.map (·.1) := by
  induction r with
  | nil => rfl
  | cons h r ih => rw [List.map_cons, List.map_cons, ih]
theorem RKV.rvs {K : Frag} {w : World} {B : Sit} {κ : Type} {kv : List (κ × V)} {kvs : List (κ × D)} (r : RKV K w B kv kvs) : RVs K w B (kv.map (·.2)) (kvs.map (·.2)) := by
  induction r with
  | nil => exact .nil
  | cons h r ih => exact .cons h ih
theorem zip_map {κ α : Type} (l : List (κ × α)) : (l.map (·.1)).zip (l.map (·.2)) = l := by
  induction l with
  | nil => rfl
  | cons p l ih => rw [List.map_cons, List.map_cons, List.zip_cons_cons, ih]
theorem se_dic {nw : Bool} {p : Pos} {es : List E} {ks : List (Option Expr)} {vs : List Expr} (h : SEs X W Φ es (flat ks vs)) (hl : ks.length = vs.length) (ha : ks.all (·.isSome) = true) (h15 : ks.length ≤ 15) : SE X W Φ (.dic nw es) (.Dict ks vs p) := by
  refine se_val ?_ fun _ => rfl
  by_cases h0 : ks = []
  · subst h0
    have e : vs = [] := List.eq_nil_of_length_eq_zero hl.symm
    subst e
    cases h
    refine pe_mono pe_dnewK fun σ H Q ⟨A, ρ, eH, R, en, q⟩ p hp => ?_
    subst eH
    simp only [evE, evEs, Res.bind_ok, kvOf] at q
    cases nw with
    | true =>
      refine pst_at q (ext_cell R hp (c := .dK [] false)) (rp_cell R hp ⟨[], upd_same, .nil, fun _ m => nomatch m⟩) rfl (.ref ?_)
      rw [← R.len]
      exact go_mk.getElem?_snoc_self
    | false => exact pst_at q (ext_new hp) (rp_new R hp) rfl (.dct (ks := []) (vs := []) ⟨upd_same, fz_new R hp⟩ rfl .nil)
  · obtain ⟨pp, el⟩ := pps_of (pos := p) hl ha h
    refine pe_mono (pe_disp pp ha hl h0 h15) fun σ H Q ⟨A, ρ, eH, R, en, q⟩ p hp => ?_
    subst eH
    simp only [evE] at q
    have x0 : Ext A (A.priv p (.dK [])) := ext_priv hp
    have R0 : Rp X.K X.w (A.priv p (.dK [])) := rp_priv R hp
    refine tp_sound ks.length el (lf R0 (en.ext x0) (pst_bind0 x0 q fun ds ps B x R2 rs ee h1 => ?_))
    have sf : Soft (.dK []) := ⟨(fun _ z => nomatch z), (fun _ _ z => nomatch z)⟩
    obtain ⟨m, hB⟩ := x.priv p (.dK []) (List.mem_cons_self ..) upd_same
    refine ⟨hB, ?_⟩
    split at h1
    · rename_i kvs ek
      obtain ⟨kv, e1, rk, okk⟩ := kv_of rs ek
      refine ⟨kv, e1, ?_, ?_⟩
      · have l1 : ps.length = kv.length := by rw [e1, List.length_map]
        have l2 : ∀ ps : List (V × V), (flatV ps).length = 2 * ps.length := fun ps => by
          induction ps with
          | nil => rfl
          | cons p ps ih => simp only [flatV, List.length_cons, ih]; omega
        have l3 := rs.length
        rw [l2] at l3
        have l4 := evEs_length ee
        omega
      · have em : mergeK [] kv = kv := by rw [merge_dist (by simpa [rk.keys] using kv_dist ek)]; rfl
        rw [em]
        have xs : Ext A B := x0.trans x
        have x1 : Ext A (B.pset p (.dK kv)) := ext_pset xs hp m hB sf
        have R1 : Rp X.K X.w (B.pset p (.dK kv)) := rp_pset R2 m hB sf
        have m1 : p ∈ (B.pset p (.dK kv)).pv := m
        have h1p : (B.pset p (.dK kv)).H p = some (.dK kv) := upd_same
        have rk1 : RKV X.K X.w (B.pset p (.dK kv)) kv kvs := rk.ext0 (ext0_pset m hB sf)
        cases nw with
        | false =>
          have rk2 := rk1.ext0 (ext0_open (p := p))
          refine pst_at (B := (B.pset p (.dK kv)).open_ p) h1 (ext_open x1 hp) (rp_open R1) rfl ?_
          have hz : (kvs.map (·.1)).zip (kv.map (·.2)) = kv := by rw [← rk.keys]; exact zip_map kv
          exact .dct (vs := kv.map (·.2)) ⟨by rw [hz]; exact h1p, fz_open R1 m1⟩ (by rw [List.length_map, List.length_map]) rk2.rvs
        | true =>
          have rk2 := rk1.ext0 (ext0_opcell R1 m1 (c := .dK kvs false))
          refine pst_at (B := (B.pset p (.dK kv)).opcell p (.dK kvs false)) h1 (ext_opcell x1 hp R1 m1) (rp_opcell R1 m1 ⟨kv, h1p, rk2, okk⟩) rfl (.ref ?_)
          rw [show B.S.length = (B.pset p (.dK kv)).m.length from R2.len.symm]
          exact go_mk.getElem?_snoc_self
    · exact h1.elim
end
end Cl

set_option linter.all false
set_option autoImplicit false
set_option maxRecDepth 100000
set_option maxHeartbeats 1000000
/-! Cl: rules, third part: keywords, built-in functions, methods, places, f-strings. -/
namespace Cl
open PySem PySem.Spec PyProof.Rows L2

section
variable {X : Cx} {W : WX} {Φ : Tab} {Γ : Gam} {k : Nat}
/-! ### keywords -/
theorem perm_length {α : Type} {l : List α} : ∀ {pi : List Nat}, (∀ j ∈ pi, j < l.length) → (perm pi l).length = pi.length
  | [], _ => rfl
  | i :: pi, h => by
    have ih := perm_length (pi := pi) fun j m => h j (List.mem_cons_of_mem _ m)
    unfold perm at ih ⊢
    rw [List.filterMap_cons, List.getElem?_eq_getElem (h i (List.mem_cons_self ..))]
    simp only [List.length_cons, ih]
theorem RVs.perm {K : Frag} {w : World} {A : Sit} {vs : List V} {ds : List D} (r : RVs K w A vs ds) : ∀ (pi : List Nat), RVs K w A (perm pi vs) (perm pi ds)
  | [] => .nil
  | i :: pi => by
    have ih := RVs.perm r pi
    unfold Cl.perm at ih ⊢
    rw [List.filterMap_cons, List.filterMap_cons]
    cases e : ds[i]? with
    | none =>
      rw [List.getElem?_eq_none_iff, ← r.length] at e
      rw [List.getElem?_eq_none_iff.mpr e]
      exact ih
    | some d =>
      obtain ⟨v, h1, h2⟩ := r.get e
      rw [h1]
      exact .cons h2 ih
theorem Vals.perm {vs : List V} {us : List Value} (r : Vals vs us) : ∀ (pi : List Nat), Vals (Cl.perm pi vs) (Cl.perm pi us)
  | [] => .nil
  | i :: pi => by
    have ih := Vals.perm r pi
    have hl := r.length
    unfold Cl.perm at ih ⊢
    rw [List.filterMap_cons, List.filterMap_cons]
    cases e : vs[i]? with
    | none =>
      have e2 := List.getElem?_eq_none_iff.mp e
      rw [List.getElem?_eq_none_iff.mpr (by omega)]
      exact ih
    | some v =>
      obtain ⟨u, h1, h2⟩ := r.get e
      rw [h1]
      exact .cons h2 ih
/-- the keywords, each with its name -/
def kwVals : List Keyword → List Expr
  | [] => []
  | ⟨_, e, _⟩ :: r => e :: kwVals r
def kwNames : List Keyword → List Str
  | [] => []
  | ⟨some y, _, _⟩ :: r => y :: kwNames r
  | ⟨none, _, _⟩ :: r => kwNames r
def kwAll : List Keyword → Bool
  | [] => true
  | ⟨some _, _, _⟩ :: r => kwAll r
  | ⟨none, _, _⟩ :: _ => false
theorem kw_all {pos : Pos} {env : PySem.Env} : ∀ {kws : List Keyword}, kwAll kws = true → (backToKw pos (keywordEach kws env)).all (·.1.isSome) = true ∧ (backToKw pos (keywordEach kws env)).filterMap (·.1) = kwNames kws ∧ (backToKw pos (keywordEach kws env)).any (·.1.isNone) = false
  | [], _ => ⟨rfl, rfl, rfl⟩
  | ⟨some y, e, p⟩ :: r, h => by
    obtain ⟨h1, h2, h3⟩ := kw_all (pos := pos) (env := env) (kws := r) h
    refine ⟨?_, ?_, ?_⟩
    · show (true && (backToKw pos (keywordEach r env)).all (·.1.isSome)) = true
      rw [h1]; rfl
    · show y :: (backToKw pos (keywordEach r env)).filterMap (·.1) = _
      rw [h2]; rfl
    · show (false || (backToKw pos (keywordEach r env)).any (·.1.isNone)) = false
      rw [h3]; rfl
  | ⟨none, _, _⟩ :: _, h => by cases h
theorem pk_of : ∀ {kws : List Keyword} {es : List E}, SEs X W Φ es (kwVals kws) → PK X kws (LA X W Φ es)
  | [], es, h => by
    cases h
    refine ⟨fun pos pins s σ H Q I ⟨A, ρ, eH, R, en, q⟩ => pk_nil.run pos pins s σ H Q I ?_⟩
    subst eH
    simp only [evEs] at q
    exact pst_ok q R .nil
  | ⟨y, e, p⟩ :: r, es, h => by
    cases h with
    | cons h1 n1 r1 =>
      refine ⟨fun pos pins s σ H Q I ⟨A, ρ, eH, R, en, q⟩ => (pk_cons h1.1 (pk_of r1)).run pos pins s σ H Q I ?_⟩
      subst eH
      simp only [evEs] at q
      exact lf R en (pst_bind q fun d v B x R2 rv _ h1 => lf R2 (en.ext x) (pst_bind h1 fun ds vs C y R3 rs _ h2 => pst_ok h2 R3 (.cons (rv.ext y) rs)))
theorem kwVals_len : ∀ {kws : List Keyword}, kwAll kws = true → (kwNames kws).length = (kwVals kws).length
  | [], _ => rfl
  | ⟨some y, e, p⟩ :: r, h => by
    show (y :: kwNames r).length = (e :: kwVals r).length
    rw [List.length_cons, List.length_cons, kwVals_len (kws := r) h]
  | ⟨none, _, _⟩ :: _, h => by cases h
theorem run_kw {fa : Addr} {fd : FuncData} {ps ks : List Str} {pi : List Nat} {F : Fn} {pins : List (Addr × Obj)} {σ : L2.St} {H : Hp} {s : Shared} {Q : VK} {ws : List Value} {zs : List V} (Fo : FnOk X.prog X.w X.K X.mg X.base (L2.CX X.prog X.w) k fa fd ps (spF X.K X.w X.mg ps.length F)) (hr : Room k X.A)
    (hb : BindsTo s fd ⟨[], ks.zip ws⟩ (ps.zip (perm pi ws))) (tk : Takes X W) (I : Inv X pins σ H s) (rz : Vals zs ws) (h : spF X.K X.w X.mg ps.length F (perm pi zs) H Q (WE W σ)) :
    wpAny (model X.prog X.w) X.A (call (.ref fa) [] (ks.zip ws)) (EP X pins σ Q) X.xe s := by
  refine wpAny_call (codeAny_mono (Fo.run X.A X.stack s H ⟨[], ks.zip ws⟩ (perm pi ws) (perm pi zs) Q (WE W σ) hr I.env0 hb (Vals.perm rz pi) h) fun r s' hq => ?_)
  match r, hq with
  | .error e, hq => exact passAt tk σ pins H s e s' I hq
  | .ok (.ret u), hq => exact I.after hq
  | .ok .next, hq => exact hq.elim
  | .ok .brk, hq => exact hq.elim
  | .ok .cont, hq => exact hq.elim
theorem se_callk {i : Nat} {f : Str} {pi : List Nat} {Fn' : Fn} {p pos : Pos} {kws : List Keyword} {as : List E} (F : Fit Γ Φ k W X) (h : Γ.glb f = true) (hu : Φ[i]? = some (.kw f (kwNames kws) pi Fn'))
    (ha : SEs X W Φ as (kwVals kws)) (hk : kwAll kws = true) : SE X W Φ (.callk i as) (.Call (.Name f p) [] kws pos) := by
  obtain ⟨h1, h2⟩ := F.gl h
  obtain ⟨fa, fd, ps, Fo, h3, h4, h5, h6, h7⟩ := F.us i _ hu
  obtain ⟨k1, k2, k3⟩ := kw_all (pos := pos) (env := X.env) hk
  refine se_val ⟨fun pins s σ H Q I ⟨A, ρ, eH, R, en, q⟩ => ?_⟩ fun _ => rfl
  subst eH
  refine wpAny_Call_Name_kw (ld_glob I h1 h3 ?_ (nm_d h2))
  simp only [evE] at q
  refine PySem.W.callWith_KW0 (h₀ := X.base) I.ok.mod.kin h4 k1 (thn ((pk_of ha).run pos pins s σ A.H (fun zs H2 => zs.length = (kwNames kws).length ∧ spF X.K X.w X.mg ps.length Fn' (perm pi zs) H2 Q (WE W σ)) I (lf R en (pst_bind q fun ds vs B x R2 rv e h8 => ?_))) fun ws s2 hq => ?_) (by rw [k3]; rfl)
  · have hl : vs.length = (kwNames kws).length := by rw [rv.length, evEs_length e, ha.len, kwVals_len hk]
    refine ⟨hl, ?_, B, perm pi ds, rfl, R2, rv.perm pi, ?_⟩
    · rw [perm_length (by rw [hl]; exact h6), h5]
    · simp only [callK, hu] at h8
      exact h8
  · obtain ⟨zs, H2, I2, rz, hl, q2⟩ := hq
    refine ⟨I2.kIn, ?_⟩
    rw [k2]
    exact run_kw Fo F.room (h7 s2 ws I2.kIn (by rw [← rz.length]; exact hl)) F.tk I2 rz q2

/-! ### built-in functions -/
def Bi.nm : Bi → Str
  | .len => "len" | .all => "all" | .any => "any" | .tuple => "tuple" | .list => "list" | .int => "int" | .str => "str" | .max2 => "max" | .min2 => "min"
theorem bi_boot : ∀ b : Bi, bootBuiltins b.nm = some b.val
  | .len => by decide +kernel
  | .all => by decide +kernel
  | .any => by decide +kernel
  | .tuple => by decide +kernel
  | .list => by decide +kernel
  | .int => by decide +kernel
  | .str => by decide +kernel
  | .max2 => by decide +kernel
  | .min2 => by decide +kernel
theorem pe_callV {v : Value} {y : Str} {p pos : Pos} {x : Expr} {xs : List Expr} {t : TA} {r : List V → Hp → VK → Prop} (hv : (∃ id, v = .builtin id) ∨ ∃ T, v = .type T) (hc : CallR X v r) (hg : Gl X y) (hm : X.mg y = none) (hb : bootBuiltins y = some v) (ha : PA X (x :: xs) t) (hn : nmOk y = true) (hs : (x :: xs).all noStar = true) :
    PE X (.Call (.Name y p) (x :: xs) [] pos) (tCB r t) := by
  rw [List.all_cons, Bool.and_eq_true] at hs
  rcases hv with ⟨id, rfl⟩ | ⟨T, rfl⟩
  · exact pe_callB hc hg hm hb ha (nm_n hn) (nm_d hn) (star_cons hs.1) (star_any hs.2)
  · exact pe_callTy hc hg hm hb ha (nm_n hn) (nm_d hn) (star_cons hs.1) (star_any hs.2)
theorem bi_val (b : Bi) : (∃ id, b.val = .builtin id) ∨ ∃ T, b.val = .type T := by
  cases b <;> first | exact .inl ⟨_, rfl⟩ | exact .inr ⟨_, rfl⟩
theorem se_bi {b : Bi} {nw : Bool} {p pos : Pos} {x : Expr} {xs : List Expr} {as : List E} (F : Fit Γ Φ k W X) (h : Γ.glb b.nm = true) (hf : isFree Φ b.nm = true) (ha : SEs X W Φ as (x :: xs)) : SE X W Φ (.bi b nw as) (.Call (.Name b.nm p) (x :: xs) [] pos) := by
  obtain ⟨h1, h2⟩ := F.gl h
  refine se_val (pe_mono (pe_callV (bi_val b) (cr_bi F.calm nw b) h1 (F.free hf) (bi_boot b) ha.pa h2 ha.star) fun σ H Q ⟨A, ρ, eH, R, en, q⟩ => ?_) fun _ => rfl
  subst eH
  simp only [evE] at q
  exact lf R en (pst_bind q fun ds vs B x R2 rv _ h3 => ⟨B, ds, rfl, R2, rv, go_of h3⟩)
def Ty.nm (t : Ty) : Str := t.name
theorem ty_boot : ∀ t : Ty, bootBuiltins t.nm = some (.type t.name)
  | .int => by decide +kernel
  | .bool => by decide +kernel
  | .str => by decide +kernel
  | .tuple => by decide +kernel
  | .list => by decide +kernel
  | .dict => by decide +kernel
theorem se_isi {t : Ty} {p p2 pos : Pos} {x : Expr} {e : E} (F : Fit Γ Φ k W X) (h : Γ.glb "isinstance" = true) (hf : isFree Φ "isinstance" = true) (ht : Γ.glb t.nm = true) (htf : isFree Φ t.nm = true) (ha : PE X x (LE X W Φ e)) (hs : noStar x = true) :
    SE X W Φ (.isi e t) (.Call (.Name "isinstance" p) [x, .Name t.nm p2] [] pos) := by
  obtain ⟨h1, h2⟩ := F.gl h
  obtain ⟨h3, h4⟩ := F.gl ht
  have pt : PE X (.Name t.nm p2) (tC (.ty t.name)) := pe_bltn h3 (F.free htf) (ty_boot t) rfl (nm_n h4) (nm_d h4)
  refine se_val (pe_mono (pe_callV (.inl ⟨_, rfl⟩) (cr_isi t) h1 (F.free hf) PyProof.Rows.boot_isinstance (pa_cons ha (pa_cons pt pa_nil) (star_cons hs)) h2 (by rw [List.all_cons, hs]; rfl)) fun σ H Q ⟨A, ρ, eH, R, en, q⟩ => ?_) fun _ => rfl
  subst eH
  simp only [evE] at q
  refine lf R en (pst_bind q fun d v B x R2 rv _ h5 => ?_)
  split at h5
  · rename_i hty
    exact ⟨B, v, d, rfl, rfl, R2, rv, hty, go_of h5⟩
  · exact h5.elim

/-! ### places -/
theorem se_idx {a b : Expr} {ea eb : E} {p : Pos} (F : Fit Γ Φ k W X) (ha : PE X a (LE X W Φ ea)) (hb : PE X b (LE X W Φ eb)) (hs : noSlice b = true) : SE X W Φ (.idx ea eb) (.Subscript a b p) := by
  have hu : X.A.units + 65 < cLine := by have := F.room.un; omega
  refine se_val (pe_mono (pe_ix (ir_get hu) ha hb (plainIx hs)) fun σ H Q ⟨A, ρ, eH, R, en, q⟩ => ?_) fun _ => rfl
  subst eH
  simp only [evE] at q
  exact lf R en (pst_bind q fun d v B x R2 rv _ h1 => lf R2 (en.ext x) (pst_bind h1 fun d2 u C y R3 ru _ h2 => ⟨C, d, d2, rfl, R3, rv.ext y, ru, go_of h2⟩))
theorem so_none : PO X none (LO X W Φ none) := po_mono po_none fun σ H Q ⟨A, ρ, eH, R, en, q⟩ => by
  subst eH
  simp only [evO] at q
  exact pst_ok (rel := rO) (a := none) q R rfl
theorem so_some {x : Expr} {e : E} (h : PE X x (LE X W Φ e)) : PO X (some x) (LO X W Φ (some e)) := po_mono (po_some h) fun σ H Q ⟨A, ρ, eH, R, en, q⟩ => by
  subst eH
  simp only [evO] at q
  exact lf R en (pst_toI q fun i B x R2 h1 => ⟨i, rfl, pst_ok (rel := rO) (a := some i) h1 R2 rfl⟩)
theorem se_sl {nw : Bool} {a : Expr} {lo hi : Option Expr} {ea : E} {el eh : Option E} {p p2 : Pos} (ha : PE X a (LE X W Φ ea)) (hl : PO X lo (LO X W Φ el)) (hh : PO X hi (LO X W Φ eh)) : SE X W Φ (.sl nw ea el eh) (.Subscript a (.Slice lo hi none p2) p) :=
  se_val (pe_mono (pe_slice (sr_slice nw) ha hl hh) fun σ H Q ⟨A, ρ, eH, R, en, q⟩ => by
    subst eH
    simp only [evE] at q
    refine lf R en (pst_bind q fun d v B x R2 rv _ h1 => lf R2 (en.ext x) (pst_bind (rel := rO) h1 fun l l' C y R3 e1 _ h2 => lf R3 ((en.ext x).ext y) (pst_bind (rel := rO) h2 fun h h' G z R4 e2 _ h3 => ?_)))
    cases e1
    cases e2
    exact ⟨G, d, rfl, R4, (rv.ext y).ext z, go_of h3⟩) fun _ => rfl
theorem se_rev {nw : Bool} {a : Expr} {ea : E} {j : Nat} {p1 p2 p3 p : Pos} (ha : PE X a (LE X W Φ ea)) : SE X W Φ (.rev nw ea) (.Subscript a (.Slice none none (some (.UnaryOp .USub (.Constant (.int 1) j p1) p2)) p3) p) :=
  se_val (pe_mono (pe_revL ha) fun σ H Q ⟨A, ρ, eH, R, en, q⟩ => by
    subst eH
    simp only [evE] at q
    refine lf R en (pst_bind q fun d v B x R2 rv _ h1 => ?_)
    simp only [revd] at h1
    cases hl : lstOf B.S d with
    | some ds =>
      simp only [hl] at h1
      obtain ⟨a, vs, e1, e2, rs⟩ := lstOf_rv R2 rv hl
      exact ⟨a, vs, e1, SqL.of e2, fun p hp => go_mk R2 (go_of h1) rs.reverse hp⟩
    | none =>
      simp only [hl] at h1
      exact h1.elim) fun _ => rfl

/-! ### f-strings -/
theorem se_fv {a : Expr} {ea : E} {p : Pos} (ha : PE X a (LE X W Φ ea)) : SE X W Φ (.fv ea) (.FormattedValue a (-1) none p) :=
  se_val (pe_mono (pe_fmt ha) fun σ H Q ⟨A, ρ, eH, R, en, q⟩ => by
    subst eH
    simp only [evE] at q
    refine lf R en (pst_bind q fun d v B x R2 rv _ h1 => ?_)
    cases d with
    | str y =>
      obtain ⟨e, hy⟩ := rv_str rv
      exact .inl ⟨y, e, by rw [← line_eq]; exact hy.1, pst_ok h1 R2 (.str y hy)⟩
    | int i =>
      simp only [fmtD] at h1
      split at h1
      · rename_i hi
        exact .inr ⟨i, rv_int rv, hi, pst_ok h1 R2 (.str _ (okS_int hi))⟩
      · exact h1.elim
    | _ => exact h1.elim) fun _ => rfl
def fsT (X : Cx) (W : WX) (Φ : Tab) (es : List E) : List TE := es.map fun e => LE X W Φ e
theorem SEs.pj {es : List E} {xs : List Expr} (h : SEs X W Φ es xs) : PJ X xs (fsT X W Φ es) := by
  induction h with
  | nil => exact .nil
  | cons h n r ih => exact .cons h.1 ih
theorem str_len (x y : Str) : (x ++ y).length = x.length + y.length := by
  show (x.cps ++ y.cps).size = _
  rw [Array.size_append]
  rfl
theorem fs_sound {σ : L2.St} {Q : Str → Hp → Prop} {ρ : Env} : ∀ {es : List E} {acc : Str} {A : Sit}, okS acc → Rp X.K X.w A → EnvR X.K X.w A σ ρ →
    Pst X.K X.w X.mg (WE W σ) A (fun _ a b => a = b ∧ okS b) (evF1 Φ es acc ρ A.S) Q → tJs (fsT X W Φ es) acc σ A.H Q
  | [], acc, A, ok, R, en, q => by
    simp only [evF1] at q
    exact pst_ok (v := acc) q R ⟨rfl, ok⟩
  | e :: es, acc, A, ok, R, en, q => by
    simp only [evF1] at q
    refine lf R en (pst_bind q fun d v B x R2 rv _ h1 => ?_)
    cases d with
    | str y =>
      obtain ⟨e, hy⟩ := rv_str rv
      simp only at h1
      split at h1
      · rename_i hl
        exact ⟨y, e, by rw [str_len, ← line_eq]; exact hl, fs_sound (ok.append hy hl) R2 (en.ext x) h1⟩
      · exact h1.elim
    | _ => exact h1.elim
theorem empty_app (y : Str) : (⟨#[]⟩ : Str) ++ y = y := by
  show (⟨#[] ++ y.cps⟩ : Str) = y
  rw [Array.empty_append]
theorem se_fs {es : List E} {xs : List Expr} {p : Pos} (h : SEs X W Φ es xs) (h0 : xs ≠ []) : SE X W Φ (.fs es) (.JoinedStr xs p) := by
  refine se_val ?_ fun _ => rfl
  have ok0 : okS ⟨#[]⟩ := okS_list (l := []) (by show 0 ≤ line; unfold line; omega) fun c m => nomatch m
  cases h with
  | nil => exact absurd rfl h0
  | @cons e x es xs h n r => cases r with
    | nil =>
      refine pe_mono (pe_joined1 h.1) fun σ H Q ⟨A, ρ, eH, R, en, q⟩ => ?_
      subst eH
      simp only [evE, evF1] at q
      rw [bind_assoc] at q
      refine lf R en (pst_bind q fun d v B x R2 rv _ h1 => ?_)
      cases d with
      | str y =>
        obtain ⟨e, hy⟩ := rv_str rv
        simp only at h1
        split at h1
        · rw [empty_app] at h1
          exact pst_ok h1 R2 rv
        · exact h1.elim
      | _ => exact h1.elim
    | @cons e2 x2 es2 xs2 h2 n2 r2 =>
      refine pe_mono (pe_joined (SEs.pj (.cons h n (.cons h2 n2 r2)))) fun σ H Q ⟨A, ρ, eH, R, en, q⟩ => ?_
      subst eH
      rw [evE] at q
      refine fs_sound ok0 R en (pst_bind q fun d v B x R2 e _ h1 => ?_)
      obtain ⟨e, hy⟩ := e
      cases e
      exact pst_ok h1 R2 (.str _ hy)
end
end Cl

set_option linter.all false
set_option autoImplicit false
set_option maxRecDepth 100000
set_option maxHeartbeats 1000000
/-! Cl: rules, fourth part: methods of lists, texts, dicts. -/
namespace Cl
open PySem PySem.Spec PyProof.Rows L2

section
variable {X : Cx} {W : WX} {Φ : Tab} {Γ : Gam} {k : Nat}
def Mt.nm : Mt → Str
  | .append => "append" | .pop => "pop" | .popAt => "pop" | .remove => "remove" | .join => "join" | .extend => "extend" | .get1 => "get" | .get2 => "get"
theorem few_ok {pos : Pos} {env : PySem.Env} {xs : List Expr} (h : xs.all noStar = true) (hl : xs.length < 29) :
    ((backTo pos (starEach xs env)).all (fun x => !x.1) && (backToKw pos (keywordEach [] env)).all (fun x => x.1.isSome) && decide (xs.length + ([] : List Keyword).length + (if ([] : List Keyword).isEmpty then 0 else 1) < 30)) = true := by
  rw [star_all h, Bool.and_eq_true, decide_eq_true_eq]
  refine ⟨rfl, ?_⟩
  show xs.length + 0 + 0 < 30
  omega
/-- a method of one argument or more -/
theorem mt_gen {T id : String} {m : Mt} {o x : Expr} {xs : List Expr} {eo : E} {as : List E} {apos cpos : Pos} (pa : PlainAttrs T) (slot : Slot T m.nm id) (hty : typeOf (.builtin id) = pure (.type "method_descriptor")) (hm : MtR X id (rmg X m))
    (ty : ∀ (A : Sit) (v : V) (d : D), Rp X.K X.w A → RV X.K X.w A v d → mtTy m A.S d = true → tyV X.K T v A.H) (ho : PE X o (LE X W Φ eo)) (ha : SEs X W Φ as (x :: xs)) (hb : noBare o = true) (hl : (apos.endLine == cpos.line) = true) (h29 : (x :: xs).length < 29) :
    SE X W Φ (.mt m eo as) (.Call (.Attribute o m.nm apos) (x :: xs) [] cpos) := by
  have hs := ha.star
  have hs2 := hs
  rw [List.all_cons, Bool.and_eq_true] at hs2
  refine se_val (pe_mono (pe_bm pa slot hty hm ho ha.pa (bare_ok hb) (few_ok hs h29) hl (star_cons hs2.1) (star_any hs2.2)) fun σ H Q ⟨A, ρ, eH, R, en, q⟩ => ?_) fun _ => rfl
  subst eH
  simp only [evE] at q
  refine lf R en (pst_bind q fun d v B x R2 rv _ h1 => ?_)
  split at h1
  · rename_i ht
    exact ⟨ty B v d R2 rv ht, lf R2 (en.ext x) (pst_bind h1 fun ds vs C y R3 rs _ h2 => ⟨C, d, ds, rfl, R3, rv.ext y, rs, go_of h2⟩)⟩
  · exact h1.elim
theorem ty_list {m : Mt} (hm : m ≠ .join) (h1 : m ≠ .get1) (h2 : m ≠ .get2) (A : Sit) (v : V) (d : D) (R : Rp X.K X.w A) (r : RV X.K X.w A v d) (h : mtTy m A.S d = true) : tyV X.K "list" v A.H := by
  cases r with
  | str x h' => cases m <;> first | exact absurd rfl hm | cases h
  | dct _ _ _ => cases m <;> first | exact absurd rfl h1 | exact absurd rfl h2 | cases h
  | @ref a n hn =>
    cases hc : A.S[n]? with
    | none => simp only [mtTy, hc] at h; cases m <;> cases h
    | some c =>
      cases c with
      | lst ds =>
        obtain ⟨vs, ha, _⟩ := R.cell n a _ hn hc
        exact .inl ⟨rfl, vs, SqL.of ha⟩
      | dK kvs l => simp only [mtTy, hc] at h; cases m <;> first | exact absurd rfl h1 | exact absurd rfl h2 | cases h
      | dT kvs l => simp only [mtTy, hc] at h; cases m <;> first | exact absurd rfl h1 | exact absurd rfl h2 | cases h
      | dead => simp only [mtTy, hc] at h; cases m <;> cases h
  | _ => cases m <;> cases h
theorem ty_str (A : Sit) (v : V) (d : D) (R : Rp X.K X.w A) (r : RV X.K X.w A v d) (h : mtTy .join A.S d = true) : tyV X.K "str" v A.H := by
  cases r with
  | str x h' => exact rfl
  | @ref a n hn =>
    simp only [mtTy] at h
    cases h
  | _ => cases h
theorem se_pop {o : Expr} {eo : E} {apos cpos : Pos} (ho : PE X o (LE X W Φ eo)) (hb : noBare o = true) (hl : (apos.endLine == cpos.line) = true) : SE X W Φ (.mt .pop eo []) (.Call (.Attribute o "pop" apos) [] [] cpos) := by
  refine se_val (pe_mono (pe_bm0 PySem.F.plainAttrs_list PySem.F.slot_list_pop PySem.F.type_list_pop mr_pop ho (bare_ok hb) hl) fun σ H Q ⟨A, ρ, eH, R, en, q⟩ => ?_) fun _ => rfl
  subst eH
  simp only [evE] at q
  refine lf R en (pst_bind q fun d v B x R2 rv _ h1 => ?_)
  split at h1
  · rename_i ht
    simp only [evEs, Res.bind_ok] at h1
    exact ⟨ty_list (by decide) (by decide) (by decide) B v d R2 rv ht, B, d, [], rfl, R2, rv, .nil, go_of h1⟩
  · exact h1.elim

/-! ### a dict's get -/
theorem dget_trk {A : Sit} (R : Rp X.K X.w A) {x y : V} {d k : D} (hx : RV X.K X.w A x d) (hy : RV X.K X.w A y k) (ht : mtTy .get1 A.S d = true) : match dget A.S d k with
    | .no => True
    | .none => ∃ a, x = .ref a ∧ DGet A.H a y none
    | .some e => ∃ a v, x = .ref a ∧ DGet A.H a y (some v) ∧ RV X.K X.w A v e := by
  cases hx with
  | @dct a ks vs ds h hl r =>
    simp only [dget]
    cases e : keyOf k with
    | none => trivial
    | some q =>
      have ey := keyOf_rv hy e
      have z := look_rv q (rkv_zip (ks := ks) r)
      cases e2 : look (ks.zip ds) q with
      | none =>
        simp only [e2] at z ⊢
        exact ⟨a, rfl, .inl ⟨_, q, .inl h.1, ey, z.symm⟩⟩
      | some d' =>
        simp only [e2] at z ⊢
        obtain ⟨v, h1, h2⟩ := z
        exact ⟨a, v, rfl, .inl ⟨_, q, .inl h.1, ey, h1.symm⟩, h2⟩
  | @ref a n h =>
    simp only [dget]
    cases hc : A.S[n]? with
    | none => trivial
    | some c =>
      have ok := R.cell n a c h hc
      cases c with
      | lst ds => trivial
      | dead => trivial
      | dK kvs l =>
        obtain ⟨kv, h1, r, _⟩ := ok
        simp only
        cases e : keyOf k with
        | none => trivial
        | some q =>
          have ey := keyOf_rv hy e
          have z := look_rv q r
          cases e2 : look kvs q with
          | none =>
            simp only [e2] at z ⊢
            exact ⟨a, rfl, .inl ⟨_, q, lockd_rd h1, ey, z.symm⟩⟩
          | some d' =>
            simp only [e2] at z ⊢
            obtain ⟨v, g1, g2⟩ := z
            exact ⟨a, v, rfl, .inl ⟨_, q, lockd_rd h1, ey, g1.symm⟩, g2⟩
      | dT kvs l =>
        obtain ⟨kv, h1, r, _⟩ := ok
        simp only
        cases e : tkeyOf k with
        | none => trivial
        | some q =>
          obtain ⟨b, ey, hb⟩ := tkeyOf_rv hy e
          have z := look_rv q r
          cases e2 : look kvs q with
          | none =>
            simp only [e2] at z ⊢
            exact ⟨a, rfl, .inr ⟨_, q, b, lockd_rd h1, ey, hb, z.symm⟩⟩
          | some d' =>
            simp only [e2] at z ⊢
            obtain ⟨v, g1, g2⟩ := z
            exact ⟨a, v, rfl, .inr ⟨_, q, b, lockd_rd h1, ey, hb, g1.symm⟩, g2⟩
  | _ => cases ht
theorem isD_of {A : Sit} (R : Rp X.K X.w A) {x : V} {d : D} (hx : RV X.K X.w A x d) (ht : mtTy .get1 A.S d = true) : ∃ a, x = .ref a ∧ IsD A.H a := by
  cases hx with
  | @dct a ks vs ds h hl r => exact ⟨a, rfl, .inl ⟨_, .inl h.1⟩⟩
  | @ref a n h =>
    simp only [mtTy] at ht
    cases hc : A.S[n]? with
    | none => simp only [hc] at ht; cases ht
    | some c =>
      have ok := R.cell n a c h hc
      cases c with
      | lst ds => simp only [hc] at ht; cases ht
      | dead => simp only [hc] at ht; cases ht
      | dK kvs l =>
        obtain ⟨kv, h1, r, _⟩ := ok
        exact ⟨a, rfl, .inl ⟨_, lockd_rd h1⟩⟩
      | dT kvs l =>
        obtain ⟨kv, h1, r, _⟩ := ok
        exact ⟨a, rfl, .inr ⟨_, lockd_rd h1⟩⟩
  | _ => cases ht
theorem se_get1 {o a : Expr} {eo ea : E} {apos cpos : Pos} (F : Fit Γ Φ k W X) (ho : PE X o (LE X W Φ eo)) (ha : PE X a (LE X W Φ ea)) (hs : noStar a = true) (hb : noBare o = true) (hl : (apos.endLine == cpos.line) = true) : SE X W Φ (.mt .get1 eo [ea]) (.Call (.Attribute o "get" apos) [a] [] cpos) := by
  have hu : X.A.units + 1 < cLine := by have := F.room.un; omega
  have m1 : M1 X o "get" apos a cpos := ⟨bare_ok hb, few_ok (by rw [List.all_cons, hs]; rfl) (by show 1 < 29; decide), hl, by rw [star_cons hs]; rfl⟩
  refine se_val (pe_mono (pe_dget1 hu ho ha m1) fun σ H Q ⟨A, ρ, eH, R, en, q⟩ => ?_) fun _ => rfl
  subst eH
  simp only [evE] at q
  refine lf R en (pst_bind q fun d v B x R2 rv _ h1 => ?_)
  split at h1
  · rename_i ht
    obtain ⟨p, e, hd⟩ := isD_of R2 rv ht
    refine ⟨p, e, hd, lf R2 (en.ext x) ?_⟩
    simp only [evEs] at h1
    rw [bind_assoc] at h1
    refine pst_bind h1 fun d2 u C y R3 ru _ h2 => ?_
    simp only [Res.bind_ok, mtSem] at h2
    have trk : mtTy .get1 C.S d = true ∨ ∀ e, dget C.S d d2 ≠ .some e ∧ dget C.S d d2 ≠ .none := by
      cases hc : mtTy .get1 C.S d with
      | true => exact .inl rfl
      | false =>
        refine .inr fun e => ?_
        cases rv with
        | dct _ _ _ => cases hc
        | @ref a n hn =>
          simp only [mtTy] at hc
          simp only [dget]
          cases hcc : C.S[n]? with
          | none => exact ⟨(fun z => nomatch z), (fun z => nomatch z)⟩
          | some c => cases c with
            | lst ds => exact ⟨(fun z => nomatch z), (fun z => nomatch z)⟩
            | dead => exact ⟨(fun z => nomatch z), (fun z => nomatch z)⟩
            | dK kvs l => simp only [hcc] at hc; cases hc
            | dT kvs l => simp only [hcc] at hc; cases hc
        | _ => cases ht
    rcases trk with trk | trk
    · have z := dget_trk R3 (rv.ext y) ru trk
      cases hg : dget C.S d d2 with
      | no => simp only [hg] at h2; exact h2.elim
      | none =>
        simp only [hg] at h2 z
        obtain ⟨a', ea, g⟩ := z
        rw [e] at ea
        cases ea
        exact ⟨none, g, pst_ok h2 R3 .non⟩
      | some e' =>
        simp only [hg] at h2 z
        obtain ⟨a', v', ea, g, rv'⟩ := z
        rw [e] at ea
        cases ea
        exact ⟨some v', g, pst_ok h2 R3 rv'⟩
    · cases hg : dget C.S d d2 with
      | no => simp only [hg] at h2; exact h2.elim
      | none => exact absurd hg (trk .non).2
      | some e' => exact absurd hg (trk e').1
  · exact h1.elim
theorem se_get2 {o a b : Expr} {eo ea eb : E} {apos cpos : Pos} (F : Fit Γ Φ k W X) (ho : PE X o (LE X W Φ eo)) (ha : PE X a (LE X W Φ ea)) (hb2 : PE X b (LE X W Φ eb)) (hs : noStar a = true) (hs2 : noStar b = true) (hb : noBare o = true) (hl : (apos.endLine == cpos.line) = true) :
    SE X W Φ (.mt .get2 eo [ea, eb]) (.Call (.Attribute o "get" apos) [a, b] [] cpos) := by
  have hu : X.A.units + 1 < cLine := by have := F.room.un; omega
  have m2 : M2 X o "get" apos a b cpos := ⟨bare_ok hb, few_ok (by rw [List.all_cons, List.all_cons, hs, hs2]; rfl) (by show 2 < 29; decide), hl, by rw [star_cons hs, star_cons hs2]; rfl⟩
  refine se_val (pe_mono (pe_dget2 hu ho ha hb2 m2) fun σ H Q ⟨A, ρ, eH, R, en, q⟩ => ?_) fun _ => rfl
  subst eH
  simp only [evE] at q
  refine lf R en (pst_bind q fun d v B x R2 rv _ h1 => ?_)
  split at h1
  · rename_i ht
    have ht : mtTy .get1 B.S d = true := by
      cases rv with
      | dct _ _ _ => rfl
      | @ref a n hn =>
        simp only [mtTy] at ht ⊢
        cases hcc : B.S[n]? with
        | none => simp only [hcc] at ht; cases ht
        | some c => cases c <;> simp only [hcc] at ht ⊢ <;> cases ht
      | _ => cases ht
    obtain ⟨p, e, hd⟩ := isD_of R2 rv ht
    refine ⟨p, e, hd, lf R2 (en.ext x) ?_⟩
    simp only [evEs] at h1
    rw [bind_assoc] at h1
    refine pst_bind h1 fun d2 u C0 y0 R30 ru0 _ h2 => lf R30 ((en.ext x).ext y0) ?_
    rw [bind_assoc, bind_assoc] at h2
    refine pst_bind h2 fun d3 u3 C y R3 ru3 _ h2 => ?_
    simp only [Res.bind_ok, mtSem] at h2
    have trk : mtTy .get1 C.S d = true ∨ ∀ e, dget C.S d d2 ≠ .some e ∧ dget C.S d d2 ≠ .none := by
      cases hc : mtTy .get1 C.S d with
      | true => exact .inl rfl
      | false =>
        refine .inr fun e => ?_
        cases rv with
        | dct _ _ _ => cases hc
        | @ref a n hn =>
          simp only [mtTy] at hc
          simp only [dget]
          cases hcc : C.S[n]? with
          | none => exact ⟨(fun z => nomatch z), (fun z => nomatch z)⟩
          | some c => cases c with
            | lst ds => exact ⟨(fun z => nomatch z), (fun z => nomatch z)⟩
            | dead => exact ⟨(fun z => nomatch z), (fun z => nomatch z)⟩
            | dK kvs l => simp only [hcc] at hc; cases hc
            | dT kvs l => simp only [hcc] at hc; cases hc
        | _ => cases ht
    rcases trk with trk | trk
    · have z := dget_trk R3 ((rv.ext y0).ext y) (ru0.ext y) trk
      cases hg : dget C.S d d2 with
      | no => simp only [hg] at h2; exact h2.elim
      | none =>
        simp only [hg] at h2 z
        obtain ⟨a', ea, g⟩ := z
        rw [e] at ea
        cases ea
        exact ⟨none, g, pst_ok h2 R3 ru3⟩
      | some e' =>
        simp only [hg] at h2 z
        obtain ⟨a', v', ea, g, rv'⟩ := z
        rw [e] at ea
        cases ea
        exact ⟨some v', g, pst_ok h2 R3 rv'⟩
    · cases hg : dget C.S d d2 with
      | no => simp only [hg] at h2; exact h2.elim
      | none => exact absurd hg (trk .non).2
      | some e' => exact absurd hg (trk e').1
  · exact h1.elim
/-- a method of one argument -/
theorem se_mt1 {m : Mt} {o x : Expr} {eo ea : E} {apos cpos : Pos} (F : Fit Γ Φ k W X) (hm : m = .append ∨ m = .remove ∨ m = .extend ∨ m = .popAt ∨ m = .join) (ho : PE X o (LE X W Φ eo)) (ha : SE X W Φ ea x) (hs : noStar x = true) (hb : noBare o = true) (hl : (apos.endLine == cpos.line) = true) :
    SE X W Φ (.mt m eo [ea]) (.Call (.Attribute o m.nm apos) [x] [] cpos) := by
  have hu : X.A.units + 65 < cLine := by have := F.room.un; omega
  have as : SEs X W Φ [ea] [x] := .cons ha hs .nil
  rcases hm with rfl | rfl | rfl | rfl | rfl
  · exact mt_gen PySem.F.plainAttrs_list PySem.F.slot_list_append PySem.F.type_list_append mr_append (ty_list (by decide) (by decide) (by decide)) ho as hb hl (by show 1 < 29; decide)
  · exact mt_gen PySem.F.plainAttrs_list PySem.F.slot_list_remove PySem.F.type_list_remove (mr_remove hu) (ty_list (by decide) (by decide) (by decide)) ho as hb hl (by show 1 < 29; decide)
  · exact mt_gen PySem.F.plainAttrs_list PySem.F.slot_list_extend PySem.F.type_list_extend mr_extend (ty_list (by decide) (by decide) (by decide)) ho as hb hl (by show 1 < 29; decide)
  · exact mt_gen PySem.F.plainAttrs_list PySem.F.slot_list_pop PySem.F.type_list_pop mr_popAt (ty_list (by decide) (by decide) (by decide)) ho as hb hl (by show 1 < 29; decide)
  · exact mt_gen PySem.F.plainAttrs_str PySem.F.slot_str_join PySem.F.type_str_join mr_join ty_str ho as hb hl (by show 1 < 29; decide)
end
end Cl

set_option linter.all false
set_option autoImplicit false
set_option maxRecDepth 100000
set_option maxHeartbeats 1000000
/-! Cl: targets; what is walked. -/
namespace Cl
open PySem PySem.Spec PyProof.Rows L2

/-! ### targets -/
mutual
def tgIn (vs : List Nat) : Tg → Bool
  | .nm i => decide (i ∈ vs)
  | .tp ts => tgsIn vs ts
def tgsIn (vs : List Nat) : List Tg → Bool
  | [] => true
  | t :: ts => tgIn vs t && tgsIn vs ts
end
mutual
def cT (Γ : Gam) : Tg → Expr → Bool
  | .nm i, x => match asName x with
    | some y => Γ.loc i y
    | none => false
  | .tp ts, x => match asTup x with
    | some es => cTs Γ ts es
    | none => false
def cTs (Γ : Gam) : List Tg → List Expr → Bool
  | [], [] => true
  | t :: ts, x :: xs => cT Γ t x && noStar x && cTs Γ ts xs
  | [], _ :: _ => false
  | _ :: _, [] => false
end
theorem wipe_get (σ : L2.St) (j : Nat) : ∀ vs : List Nat, (L2.wipe σ vs)[j]? = if j ∈ vs ∧ j < σ.length then some none else σ[j]?
  | [] => by simp [L2.wipe]
  | v :: vs => by
    have ih := wipe_get σ j vs
    unfold L2.wipe
    by_cases e : v = j
    · subst e
      by_cases hl : v < σ.length
      · rw [List.getElem?_set_self (by rw [wipe_length]; exact hl), if_pos ⟨List.mem_cons_self .., hl⟩]
      · rw [List.getElem?_eq_none (by rw [List.length_set, wipe_length]; omega), if_neg (fun z => hl z.2), List.getElem?_eq_none (by omega)]
    · rw [List.getElem?_set_ne e, ih]
      have e' : (j ∈ v :: vs) ↔ j ∈ vs := by
        rw [List.mem_cons]
        exact ⟨fun z => z.resolve_left fun q => e q.symm, .inr⟩
      simp only [e']
theorem wipe_set {σ : L2.St} {i : Nat} {x : Option V} {vs : List Nat} (h : i ∈ vs) : L2.wipe (σ.set i x) vs = L2.wipe σ vs := by
  apply List.ext_getElem?
  intro j
  rw [wipe_get, wipe_get, List.length_set]
  by_cases e : i = j
  · subst e
    by_cases hl : i < σ.length
    · rw [if_pos ⟨h, hl⟩, if_pos ⟨h, hl⟩]
    · rw [if_neg (fun z => hl z.2), if_neg (fun z => hl z.2), List.getElem?_eq_none (by rw [List.length_set]; omega), List.getElem?_eq_none (by omega)]
  · rw [List.getElem?_set_ne e]
theorem wipe_idem {σ : L2.St} {vs : List Nat} : L2.wipe (L2.wipe σ vs) vs = L2.wipe σ vs := by
  apply List.ext_getElem?
  intro j
  rw [wipe_get, wipe_get, wipe_length]
  split <;> rfl

def LG (K : Frag) (w : World) (t : Tg) : TG := fun v σ H Q => ∃ (A : Sit) (d : D) (ρ ρ' : Env), A.H = H ∧ EnvR K w A σ ρ ∧ RV K w A v d ∧ asgT t d ρ = some ρ' ∧
  ∀ σ' : L2.St, EnvR K w A σ' ρ' → (∀ vs : List Nat, tgIn vs t = true → L2.wipe σ' vs = L2.wipe σ vs) → Q σ' A.H
def LGs (K : Frag) (w : World) (ts : List Tg) : TGs := fun vs σ H Q => ∃ (A : Sit) (ds : List D) (ρ ρ' : Env), A.H = H ∧ EnvR K w A σ ρ ∧ RVs K w A vs ds ∧ asgTs ts ds ρ = some ρ' ∧
  ∀ σ' : L2.St, EnvR K w A σ' ρ' → (∀ vs : List Nat, tgsIn vs ts = true → L2.wipe σ' vs = L2.wipe σ vs) → Q σ' A.H
theorem asgTs_length : ∀ {ts : List Tg} {ds : List D} {ρ ρ' : Env}, asgTs ts ds ρ = some ρ' → ts.length = ds.length
  | [], [], _, _, _ => rfl
  | [], _ :: _, _, _, h => by simp [asgTs] at h
  | _ :: _, [], _, _, h => by simp [asgTs] at h
  | t :: ts, d :: ds, ρ, ρ', h => by
    simp only [asgTs] at h
    obtain ⟨ρ1, h1, h2⟩ := Option.bind_eq_some_iff.mp h
    rw [List.length_cons, List.length_cons, asgTs_length h2]
theorem cTs_length {Γ : Gam} : ∀ {ts : List Tg} {xs : List Expr}, cTs Γ ts xs = true → ts.length = xs.length
  | [], [], _ => rfl
  | [], _ :: _, h => by simp [cTs] at h
  | _ :: _, [], h => by simp [cTs] at h
  | t :: ts, x :: xs, h => by
    simp only [cTs, Bool.and_eq_true] at h
    rw [List.length_cons, List.length_cons, cTs_length h.2]
theorem cTs_star {Γ : Gam} : ∀ {ts : List Tg} {xs : List Expr}, cTs Γ ts xs = true → xs.all noStar = true
  | [], [], _ => rfl
  | [], _ :: _, h => by simp [cTs] at h
  | _ :: _, [], h => by simp [cTs] at h
  | t :: ts, x :: xs, h => by
    simp only [cTs, Bool.and_eq_true] at h
    rw [List.all_cons, h.1.2, cTs_star h.2]
    rfl
theorem asg_cons {x : Expr} {xs : List Expr} {env : PySem.Env} (h : noStar x = true) : assignEach (x :: xs) env = (false, assign x env) :: assignEach xs env := by
  cases x <;> first | rfl | cases h
theorem asg_len {env : PySem.Env} : ∀ {xs : List Expr}, xs.all noStar = true → (assignEach xs env).length = xs.length ∧ (assignEach xs env).findIdx? (·.1) = none
  | [], _ => ⟨rfl, rfl⟩
  | x :: xs, h => by
    rw [List.all_cons, Bool.and_eq_true] at h
    obtain ⟨h1, h2⟩ := asg_len (env := env) h.2
    rw [asg_cons h.1, List.length_cons, h1, List.findIdx?_cons, h2]
    exact ⟨rfl, rfl⟩
theorem loc_of {Γ : Gam} {X : Cx} (sc : X.env.scope = Γ.sc) (fn : ∀ y, Γ.fn y = true → X.fn y = true) {i : Nat} {y : Str} (h : Γ.loc i y = true) : Γ.N[i]? = some y ∧ L2.Loc X.env.scope y ∧ (X.fn y = true ∨ X.env.scope.names.lookup y = some .local) := by
  unfold Gam.loc at h
  rw [Bool.and_eq_true, decide_eq_true_eq, Bool.or_eq_true, decide_eq_true_eq, Bool.and_eq_true, decide_eq_true_eq] at h
  obtain ⟨h1, h2⟩ := h
  refine ⟨h1, ?_, ?_⟩
  · unfold L2.Loc
    rw [sc]
    rcases h2 with h | h
    · exact .inl h
    · exact .inr h.1
  · rw [sc]
    rcases h2 with h | h
    · exact .inr h
    · exact .inl (fn y h.2)
section
variable {X : Cx} {Γ : Gam}
mutual
theorem sg (hN : X.N = Γ.N) (nd : X.N.Nodup) (sc : X.env.scope = Γ.sc) (fn : ∀ y, Γ.fn y = true → X.fn y = true) (hc : X.calm = true) : ∀ (t : Tg) (x : Expr), cT Γ t x = true → PG X x (LG X.K X.w t)
  | .nm i, x, h => by
    simp only [cT] at h
    split at h
    · rename_i y hx
      obtain ⟨p, rfl⟩ := asName_eq hx
      obtain ⟨h1, h2, h3⟩ := loc_of sc fn h
      refine pg_mono (pg_name (i := i) nd (by rw [hN]; exact h1) h2 h3) fun v σ H Q ⟨A, d, ρ, ρ', eH, en, rv, e, q⟩ => ?_
      subst eH
      simp only [asgT] at e
      cases e
      refine q _ (en.set rv i) fun vs hv => wipe_set ?_
      simpa [tgIn] using hv
    · cases h
  | .tp ts, x, h => by
    simp only [cT] at h
    split at h
    · rename_i es hx
      obtain ⟨j, p, rfl⟩ := asTup_eq hx
      obtain ⟨h1, h2⟩ := asg_len (env := X.env) (cTs_star h)
      refine pg_mono (pg_tup hc (sgs hN nd sc fn hc ts es h) h1 h2) fun v σ H Q ⟨A, d, ρ, ρ', eH, en, rv, e, q⟩ => ?_
      subst eH
      simp only [asgT] at e
      have fin : ∀ {a : Addr} {vs : List V} {ds : List D}, SqT X.K A.H a vs → RVs X.K X.w A vs ds → asgTs ts ds ρ = some ρ' → gTup X.K es.length (LGs X.K X.w ts) (.ref a) σ A.H Q := fun {a vs ds} hq r e =>
        ⟨a, vs, rfl, hq, by rw [r.length, ← asgTs_length e, cTs_length h], A, ds, ρ, ρ', rfl, en, r, e, fun σ' en' sm => q σ' en' fun us hu => sm us (by simpa [tgIn] using hu)⟩
      cases rv with
      | tup ht r => exact fin (SqT.of ht) r e
      | con ht r => exact fin (ht _) r e
      | _ => cases e
    · cases h
theorem sgs (hN : X.N = Γ.N) (nd : X.N.Nodup) (sc : X.env.scope = Γ.sc) (fn : ∀ y, Γ.fn y = true → X.fn y = true) (hc : X.calm = true) : ∀ (ts : List Tg) (xs : List Expr), cTs Γ ts xs = true → PGs X xs (LGs X.K X.w ts)
  | [], [], h => pgs_mono pgs_nil fun v σ H Q ⟨A, d, ρ, ρ', eH, en, rv, e, q⟩ => by
    subst eH
    cases rv with
    | nil =>
      simp only [asgTs] at e
      cases e
      exact ⟨rfl, q σ en fun vs _ => rfl⟩
    | cons _ _ => simp [asgTs] at e
  | [], _ :: _, h => by simp [cTs] at h
  | _ :: _, [], h => by simp [cTs] at h
  | t :: ts, x :: xs, h => by
    simp only [cTs, Bool.and_eq_true] at h
    refine pgs_mono (pgs_cons (sg hN nd sc fn hc t x h.1.1) (sgs hN nd sc fn hc ts xs h.2) (by rw [asg_cons h.1.2]; rfl)) fun v σ H Q ⟨A, ds, ρ, ρ', eH, en, rv, e, q⟩ => ?_
    subst eH
    cases rv with
    | nil => simp [asgTs] at e
    | cons r rs =>
      simp only [asgTs] at e
      obtain ⟨ρ1, h1, h2⟩ := Option.bind_eq_some_iff.mp e
      refine ⟨_, _, rfl, A, _, ρ, ρ1, rfl, en, r, h1, fun σ1 en1 sm1 => ⟨A, _, ρ1, ρ', rfl, en1, rs, h2, fun σ2 en2 sm2 => q σ2 en2 fun vs hv => ?_⟩⟩
      simp only [tgsIn, Bool.and_eq_true] at hv
      rw [sm2 vs hv.2, sm1 vs hv.1]
end
end

/-! ### what is walked -/
def Bd (K : Frag) (H : Hp) : Prop := (∀ a xs, SqL K H a xs → xs.length ≤ line) ∧ (∀ a xs, SqT K H a xs → xs.length ≤ line) ∧ (∀ a o kvs, H a = some (.frz o (.dK kvs)) → kvs.length ≤ line) ∧ ∀ a o kvs, H a = some (.frz o (.dT kvs)) → kvs.length ≤ line
theorem bd_of {X : Cx} {pins : List (Addr × Obj)} {σ : L2.St} {H : Hp} {s : Shared} (I : Inv X pins σ H s) : Bd X.K H := by
  refine ⟨fun a xs h => ?_, fun a xs h => ?_, fun a o kvs h => ?_, fun a o kvs h => ?_⟩
  · obtain ⟨_, _, _, z⟩ := I.list h
    rw [line_eq]; exact z
  · obtain ⟨_, _, _, z⟩ := I.tuple h
    rw [line_eq]; exact z
  · obtain ⟨_, z, _⟩ := I.hok a _ h
    rw [line_eq]; exact z
  · obtain ⟨_, z, _⟩ := I.hok a _ h
    rw [line_eq]; exact z
theorem pi_bd {X : Cx} {tg x : Expr} {t : TI} (h : PI X tg x t) : PI X tg x (fun σ H R => t σ H fun J H1 => Bd X.K H1 → R J H1) := by
  refine ⟨fun pins s σ H R I q => thn (h.run pins s σ H _ I q) fun v s1 h1 => thn h1 fun itv s2 h2 => ?_⟩
  obtain ⟨it, fp, tn, J, H2, e, I2, T, st, f, r⟩ := h2
  exact ⟨it, fp, tn, J, H2, e, I2, T, st, f, r (bd_of I2)⟩
structure ItOk (K : Frag) (w : World) (A : Sit) (J : It) (jt : Itr) : Prop where
  len : Bd K A.H → jt.items.length ≤ line
  walk : ∃ (G : Hp → Prop) (Y : Nat → Hp → V → Hp → Prop), Walk J jt.items.length G Y ∧ (∀ B : Sit, Ext A B → Rp K w B → jt.st B.S → G B.H) ∧
    ∀ (B : Sit) (i : Nat) (d : D) (v : V) (H' : Hp), Ext A B → Rp K w B → jt.st B.S → jt.items[i]? = some d → Y i B.H v H' → ∃ C : Sit, C.H = H' ∧ Ext B C ∧ Rp K w C ∧ C.S = B.S ∧ RV K w C v d
section
variable {K : Frag} {w : World} {A B : Sit}
theorem lst_st {d : D} {ds items : List D} (h : lstOf A.S d = some ds) (st : (⟨items, cellOf A.S d⟩ : Itr).st B.S) : lstOf B.S d = some ds := by
  cases d with
  | lst es => exact h
  | ref n =>
    simp only [lstOf] at h
    cases hc : A.S[n]? with
    | none => simp only [hc] at h; cases h
    | some c =>
      simp only [Itr.st, cellOf, hc, Option.map_some] at st
      simp only [hc] at h
      simp only [lstOf, st]
      exact h
  | _ => cases h
theorem itok_list {a : Addr} {d : D} {ds : List D} (R : Rp K w A) (r : RV K w A (.ref a) d) (h : lstOf A.S d = some ds) : ItOk K w A (Itl K a) ⟨ds, cellOf A.S d⟩ := by
  have rd : ∀ {B : Sit}, Ext A B → Rp K w B → (⟨ds, cellOf A.S d⟩ : Itr).st B.S → ∃ vs, SqL K B.H a vs ∧ RVs K w B vs ds := fun {B} x R2 st => by
    obtain ⟨a', vs, e, hq, rs⟩ := lstOf_rv R2 (r.ext x) (lst_st h st)
    cases e
    exact ⟨vs, SqL.of hq, rs⟩
  refine ⟨fun bd => ?_, fun H => ∃ vs, SqL K H a vs ∧ vs.length = ds.length, fun i H v H' => H' = H ∧ ∀ xs, SqL K H a xs → xs[i]? = some v, ⟨fun i H hi g => ?_, fun H g => ?_, fun i H x H' _ _ y => y⟩, fun B x R2 st => ?_, fun B i e v H' x R2 st hi y => ?_⟩
  · obtain ⟨a', vs, e, hq, rs⟩ := lstOf_rv R r h
    cases e
    have := bd.1 a vs (SqL.of hq)
    rw [rs.length] at this
    exact this
  · obtain ⟨vs, hq, hl⟩ := g
    have hi : i < ds.length := hi
    exact ⟨vs, vs[i]'(by omega), hq, by simp [show i < vs.length by omega]⟩
  · obtain ⟨vs, hq, hl⟩ := g
    exact ⟨vs, hq, Nat.le_of_eq hl⟩
  · obtain ⟨vs, hq, rs⟩ := rd x R2 st
    exact ⟨vs, hq, rs.length⟩
  · obtain ⟨vs, hq, rs⟩ := rd x R2 st
    obtain ⟨e1, y⟩ := y
    obtain ⟨u, h1, h2⟩ := rs.get hi
    have := y vs hq
    rw [h1] at this
    cases this
    exact ⟨B, e1.symm, .refl B, R2, rfl, h2⟩
/-- d is a tuple of ds -/
def TupD (d : D) (ds : List D) : Prop := d = .tup ds ∨ d = .con ds
theorem tup_rv {v : V} {d : D} {ds : List D} (r : RV K w A v d) (h : TupD d ds) : ∃ a vs, v = .ref a ∧ (∀ B, Ext A B → SqT K B.H a vs) ∧ RVs K w A vs ds := by
  rcases h with rfl | rfl
  · cases r with
    | tup ht r => exact ⟨_, _, rfl, fun B x => SqT.of (x.tups _ _ ht), r⟩
  · cases r with
    | con ht r => exact ⟨_, _, rfl, fun B x => ht _, r⟩
theorem itok_tup {a : Addr} {d : D} {ds : List D} {c : Option (Nat × Cell)} (r : RV K w A (.ref a) d) (h : TupD d ds) : ItOk K w A (Itt K a) ⟨ds, c⟩ := by
  obtain ⟨a', vs, e, hq, rs⟩ := tup_rv r h
  cases e
  refine ⟨fun bd => ?_, _, _, by rw [show (⟨ds, c⟩ : Itr).items.length = vs.length from rs.length.symm]; exact walk_tup (xs := vs), fun B x _ _ => hq B x, fun B i d v H' x R2 _ hi y => ?_⟩
  · have := bd.2.1 a vs (hq A (.refl A))
    rw [rs.length] at this
    exact this
  · obtain ⟨e1, y⟩ := y
    obtain ⟨u, h1, h2⟩ := (rs.ext x).get hi
    rw [h1] at y
    cases y
    exact ⟨B, e1.symm, .refl B, R2, rfl, h2⟩
theorem itok_str {z : Str} (h : okS z) : ItOk K w A (Its z) ⟨z.cps.toList.map fun c => .str (sign c), none⟩ := by
  refine ⟨fun bd => ?_, _, _, by rw [show (⟨z.cps.toList.map fun c => .str (sign c), none⟩ : Itr).items.length = z.cps.size by simp]; exact walk_str, fun B x _ _ => trivial, fun B i d v H' x R2 _ hi y => ?_⟩
  · simp only [List.length_map, Array.length_toList]
    exact h.1
  · obtain ⟨e1, c, hc, e2⟩ := y
    simp only [List.getElem?_map, Array.getElem?_toList, hc, Option.map_some, Option.some.injEq] at hi
    subst hi
    subst e2
    exact ⟨B, e1.symm, .refl B, R2, rfl, .str _ (okS_sign (h.mem c (by rw [← Array.getElem?_toList] at hc; exact List.mem_of_getElem? hc)))⟩
theorem itok_rng {lo : Int} {n : Nat} (hn : n ≤ line) : ItOk K w A (L2.Itr lo n) ⟨(List.range n).map fun (k : Nat) => .int (lo + k), none⟩ := by
  refine ⟨fun bd => by simpa using hn, _, _, by rw [show (⟨(List.range n).map fun (k : Nat) => D.int (lo + k), none⟩ : Itr).items.length = n by simp]; exact walk_range, fun B x _ _ => trivial, fun B i d v H' x R2 _ hi y => ?_⟩
  obtain ⟨e1, e2⟩ := y
  have hlt : i < n := by
    have := (List.getElem?_eq_some_iff.mp hi).1
    simpa using this
  simp only [List.getElem?_map, List.getElem?_range hlt, Option.map_some, Option.some.injEq] at hi
  subst hi
  subst e2
  exact ⟨B, e1.symm, .refl B, R2, rfl, .int _⟩
theorem pairs_length : ∀ (ds : List D) (k : Nat), (pairs k ds).length = ds.length
  | [], _ => rfl
  | d :: ds, k => by simp only [pairs, List.length_cons, pairs_length ds]
theorem pairs_get : ∀ {ds : List D} {k i : Nat} {d : D}, (pairs k ds)[i]? = some d → ∃ e, ds[i]? = some e ∧ d = .tup [.int ((k + i : Nat) : Int), e]
  | [], _, _, _, h => by simp [pairs] at h
  | e :: ds, k, 0, d, h => by
    simp only [pairs, List.getElem?_cons_zero, Option.some.injEq] at h
    exact ⟨e, rfl, h.symm⟩
  | e :: ds, k, i + 1, d, h => by
    simp only [pairs, List.getElem?_cons_succ] at h
    obtain ⟨e', h1, h2⟩ := pairs_get h
    exact ⟨e', by simpa using h1, by rw [h2, show k + 1 + i = k + (i + 1) by omega]⟩
/-- a new pair -/
theorem pair_new {T : Addr} {x y : V} {d e : D} (R : Rp K w B) (hT : B.H T = none) (rx : RV K w B x d) (ry : RV K w B y e) : ∃ C : Sit, C.H = upd B.H T (.tup [x, y]) ∧ Ext B C ∧ Rp K w C ∧ C.S = B.S ∧ RV K w C (.ref T) (.tup [d, e]) :=
  ⟨B.new T (.tup [x, y]), rfl, ext_new hT, rp_new R hT, rfl, .tup upd_same (.cons (rx.ext (ext_new hT)) (.cons (ry.ext (ext_new hT)) .nil))⟩
theorem itok_enum {a : Addr} {d : D} {ds : List D} (R : Rp K w A) (r : RV K w A (.ref a) d) (h : lstOf A.S d = some ds) : ItOk K w A (Ite K a) ⟨pairs 0 ds, cellOf A.S d⟩ := by
  have rd : ∀ {B : Sit}, Ext A B → Rp K w B → (⟨pairs 0 ds, cellOf A.S d⟩ : Itr).st B.S → ∃ vs, SqL K B.H a vs ∧ RVs K w B vs ds := fun {B} x R2 st => by
    obtain ⟨a', vs, e, hq, rs⟩ := lstOf_rv R2 (r.ext x) (lst_st h st)
    cases e
    exact ⟨vs, SqL.of hq, rs⟩
  have hlen : (⟨pairs 0 ds, cellOf A.S d⟩ : Itr).items.length = ds.length := pairs_length ds 0
  refine ⟨fun bd => ?_, fun H => ∃ vs, SqL K H a vs ∧ vs.length = ds.length, fun i H v H' => ∃ (T : Addr) (x : V), v = .ref T ∧ H T = none ∧ H' = upd H T (.tup [.int (i : Nat), x]) ∧ ∀ xs, SqL K H a xs → xs[i]? = some x, ⟨fun i H hi g => ?_, fun H g => ?_, fun i H x H' _ _ y => y⟩, fun B x R2 st => ?_, fun B i e v H' x R2 st hi y => ?_⟩
  · obtain ⟨a', vs, e, hq, rs⟩ := lstOf_rv R r h
    cases e
    have := bd.1 a vs (SqL.of hq)
    rw [hlen, ← rs.length]
    exact this
  · obtain ⟨vs, hq, hl⟩ := g
    rw [hlen] at hi
    exact ⟨vs, vs[i]'(by omega), hq, by simp [show i < vs.length by omega]⟩
  · obtain ⟨vs, hq, hl⟩ := g
    exact ⟨vs, hq, by rw [hlen]; exact Nat.le_of_eq hl⟩
  · obtain ⟨vs, hq, rs⟩ := rd x R2 st
    exact ⟨vs, hq, rs.length⟩
  · obtain ⟨vs, hq, rs⟩ := rd x R2 st
    obtain ⟨T, u, e1, e2, e3, y⟩ := y
    obtain ⟨e', g1, g2⟩ := pairs_get hi
    obtain ⟨u', h1, h2⟩ := rs.get g1
    have := y vs hq
    rw [h1] at this
    cases this
    obtain ⟨C, c1, c2, c3, c4, c5⟩ := pair_new R2 e2 (.int ((i : Nat) : Int)) h2
    subst e1
    rw [g2, Nat.zero_add]
    exact ⟨C, c1.trans e3.symm, c2, c3, c4, c5⟩
theorem itok_enumT {a : Addr} {d : D} {ds : List D} {c : Option (Nat × Cell)} (r : RV K w A (.ref a) d) (h : TupD d ds) : ItOk K w A (Iet K a) ⟨pairs 0 ds, c⟩ := by
  obtain ⟨a', vs, e, hq, rs⟩ := tup_rv r h
  cases e
  have hlen : (⟨pairs 0 ds, c⟩ : Itr).items.length = vs.length := (pairs_length ds 0).trans rs.length.symm
  refine ⟨fun bd => ?_, _, _, by rw [hlen]; exact walk_et (xs := vs), fun B x _ _ => hq B x, fun B i d v H' x R2 _ hi y => ?_⟩
  · have := bd.2.1 a vs (hq A (.refl A))
    rw [hlen]
    exact this
  · obtain ⟨T, k, u, e1, e2, e3, e4, y⟩ := y
    obtain ⟨e', g1, g2⟩ := pairs_get hi
    obtain ⟨u', h1, h2⟩ := (rs.ext x).get g1
    have y : vs[i]? = some u := y
    rw [h1] at y
    cases y
    cases e4
    obtain ⟨C, c1, c2, c3, c4, c5⟩ := pair_new R2 e2 (.int ((i : Nat) : Int)) h2
    subst e1
    rw [g2, Nat.zero_add]
    exact ⟨C, c1.trans e3.symm, c2, c3, c4, c5⟩
end
end Cl

set_option linter.all false
set_option autoImplicit false
set_option maxRecDepth 100000
set_option maxHeartbeats 1000000
/-! Cl: rules of iterables; comprehensions. -/
namespace Cl
open PySem PySem.Spec PyProof.Rows L2

section
variable {K : Frag} {w : World} {A B : Sit}
theorem zipD_length : ∀ (xs ys : List D), (zipD xs ys).length = min xs.length ys.length
  | [], _ => by simp [zipD]
  | _ :: _, [] => by simp [zipD]
  | x :: xs, y :: ys => by simp only [zipD, List.length_cons, zipD_length xs ys]; omega
theorem zipD_get : ∀ {xs ys : List D} {i : Nat} {d : D}, (zipD xs ys)[i]? = some d → ∃ x y, xs[i]? = some x ∧ ys[i]? = some y ∧ d = .tup [x, y]
  | [], _, _, _, h => by simp [zipD] at h
  | _ :: _, [], _, _, h => by simp [zipD] at h
  | x :: xs, y :: ys, 0, d, h => by
    simp only [zipD, List.getElem?_cons_zero, Option.some.injEq] at h
    exact ⟨x, y, rfl, rfl, h.symm⟩
  | x :: xs, y :: ys, i + 1, d, h => by
    simp only [zipD, List.getElem?_cons_succ] at h
    obtain ⟨x', y', h1, h2, h3⟩ := zipD_get h
    exact ⟨x', y', by simpa using h1, by simpa using h2, h3⟩
theorem itok_zipT {a b : Addr} {xs ys : List D} (rx : RV K w A (.ref a) (.tup xs)) (ry : RV K w A (.ref b) (.tup ys)) : ItOk K w A (RZ.ItzT K a b) ⟨zipD xs ys, none⟩ := by
  obtain ⟨a', us, e, hqa, ra⟩ := tup_rv rx (.inl rfl)
  cases e
  obtain ⟨b', vs, e, hqb, rb⟩ := tup_rv ry (.inl rfl)
  cases e
  have hlen : (⟨zipD xs ys, none⟩ : Itr).items.length = min us.length vs.length := by
    show (zipD xs ys).length = _
    rw [zipD_length, ra.length, rb.length]
  refine ⟨fun bd => ?_, fun H => SqT K H a us ∧ SqT K H b vs, fun i H v H' => ∃ T x y, v = .ref T ∧ H T = none ∧ H' = upd H T (.tup [x, y]) ∧ (∀ xs, SqT K H a xs → xs[i]? = some x) ∧ ∀ ys, SqT K H b ys → ys[i]? = some y, ⟨fun i H hi g => ?_, fun H g => ?_, fun i H x H' _ _ y => y⟩, fun B x _ _ => ⟨hqa B x, hqb B x⟩, fun B i d v H' x R2 _ hi y => ?_⟩
  · have := bd.2.1 a us (hqa A (.refl A))
    rw [hlen]
    omega
  · rw [hlen] at hi
    have h1 : i < us.length := by omega
    have h2 : i < vs.length := by omega
    exact ⟨us, vs, us[i], vs[i], g.1, g.2, by simp [h1], by simp [h2]⟩
  · exact ⟨us, vs, g.1, g.2, by rw [hlen]; omega⟩
  · obtain ⟨T, x1, y1, e1, e2, e3, f1, f2⟩ := y
    obtain ⟨x', y', g1, g2, g3⟩ := zipD_get hi
    obtain ⟨u, h1, h2⟩ := (ra.ext x).get g1
    obtain ⟨z, h3, h4⟩ := (rb.ext x).get g2
    have f1 := f1 us (hqa B x)
    have f2 := f2 vs (hqb B x)
    rw [h1] at f1
    rw [h3] at f2
    cases f1
    cases f2
    obtain ⟨C, c1, c2, c3, c4, c5⟩ := pair_new R2 e2 h2 h4
    subst e1
    rw [g3]
    exact ⟨C, c1.trans e3.symm, c2, c3, c4, c5⟩
theorem itok_zipL {a b : Addr} {xs ys : List D} (rx : RV K w A (.ref a) (.lst xs)) (ry : RV K w A (.ref b) (.lst ys)) : ItOk K w A (Itz K a b) ⟨zipD xs ys, none⟩ := by
  cases rx with
  | @lst _ us _ ha ra =>
    cases ry with
    | @lst _ vs _ hb rb =>
      have hlen : (⟨zipD xs ys, none⟩ : Itr).items.length = min us.length vs.length := by
        show (zipD xs ys).length = _
        rw [zipD_length, ra.length, rb.length]
      have sqa : ∀ {B : Sit}, Ext A B → SqL K B.H a us := fun {B} x => SqL.of (ha.ext x.toExtR).1
      have sqb : ∀ {B : Sit}, Ext A B → SqL K B.H b vs := fun {B} x => SqL.of (hb.ext x.toExtR).1
      refine ⟨fun bd => ?_, fun H => SqL K H a us ∧ SqL K H b vs, fun i H v H' => ∃ T x y, v = .ref T ∧ H T = none ∧ H' = upd H T (.tup [x, y]) ∧ (∀ xs, SqL K H a xs → xs[i]? = some x) ∧ ∀ ys, SqL K H b ys → ys[i]? = some y, ⟨fun i H hi g => ?_, fun H g => ?_, fun i H x H' _ _ y => y⟩, fun B x _ _ => ⟨sqa x, sqb x⟩, fun B i d v H' x R2 _ hi y => ?_⟩
      · have := bd.1 a us (sqa (.refl A))
        rw [hlen]
        omega
      · rw [hlen] at hi
        have h1 : i < us.length := by omega
        have h2 : i < vs.length := by omega
        exact ⟨us, vs, us[i], vs[i], g.1, g.2, by simp [h1], by simp [h2]⟩
      · exact ⟨us, vs, g.1, g.2, by rw [hlen]; omega⟩
      · obtain ⟨T, x1, y1, e1, e2, e3, f1, f2⟩ := y
        obtain ⟨x', y', g1, g2, g3⟩ := zipD_get hi
        obtain ⟨u, h1, h2⟩ := (ra.ext x).get g1
        obtain ⟨z, h3, h4⟩ := (rb.ext x).get g2
        have f1 := f1 us (sqa x)
        have f2 := f2 vs (sqb x)
        rw [h1] at f1
        rw [h3] at f2
        cases f1
        cases f2
        obtain ⟨C, c1, c2, c3, c4, c5⟩ := pair_new R2 e2 h2 h4
        subst e1
        rw [g3]
        exact ⟨C, c1.trans e3.symm, c2, c3, c4, c5⟩
end

section
variable {X : Cx} {W : WX} {Φ : Tab} {Γ : Gam} {k : Nat} {tg : Expr}
abbrev LI (X : Cx) (W : WX) (Φ : Tab) (e : E) : TI := fun σ H R => Lf X W (fun B (J : It) (jt : Itr) => ItOk X.K X.w B J jt) (evIt Φ e) σ H fun J H1 => Bd X.K H1 → R J H1
/-- what the result of an expression is known to be -/
theorem known {e : E} {ρ : Env} {S S1 S2 : Store} {d d' : D} (h : evE Φ e ρ S = .ok d S1) (h' : evE Φ e ρ S = .ok d' S2) : d' = d ∧ S2 = S1 := by
  rw [h] at h'
  cases h'
  exact ⟨rfl, rfl⟩
theorem si_walk {x : Expr} {e : E} (he : PE X x (LE X W Φ e)) : PI X tg x (LI X W Φ (.walk e)) := by
  refine pi_mono (pi_bd (pi_two (pi_list he) (pi_two (pi_tup he) (pi_str he)))) fun σ H R ⟨A, ρ, eH, Rp, en, q⟩ => ?_
  subst eH
  simp only [evIt] at q
  have tupl : ∀ {d ds S1}, evE Φ e ρ A.S = .ok d S1 → TupD d ds → iTup X.K (LE X W Φ e) σ A.H (fun J H1 => Bd X.K H1 → R J H1) := fun {d ds S1} hr ht => by
    refine lf Rp en (pst_bind q fun d' v B x R2 rv e h1 => ?_)
    obtain ⟨e1, e2⟩ := known hr e
    subst e1
    obtain ⟨a, vs, ev, hq, rs⟩ := tup_rv rv ht
    subst ev
    have h2 : Pst X.K X.w X.mg (WE W σ) B (fun B (J : It) (jt : Itr) => ItOk X.K X.w B J jt) (.ok ⟨ds, none⟩ B.S) (fun J H1 => Bd X.K H1 → R J H1) := by rcases ht with rfl | rfl <;> exact h1
    exact ⟨a, rfl, ⟨vs, hq B (.refl B)⟩, pst_ok h2 R2 (itok_tup rv ht)⟩
  cases hr : evE Φ e ρ A.S with
  | ok d S1 =>
    cases d with
    | str z =>
      refine .inr (.inr (lf Rp en (pst_bind q fun d' v B x R2 rv e h1 => ?_)))
      obtain ⟨e1, e2⟩ := known hr e
      subst e1
      obtain ⟨ev, hz⟩ := rv_str rv
      exact ⟨z, ev, pst_ok (rel := fun B (J : It) (jt : Itr) => ItOk X.K X.w B J jt) h1 R2 (itok_str hz)⟩
    | tup ds => exact .inr (.inl (tupl hr (.inl rfl)))
    | con ds => exact .inr (.inl (tupl hr (.inr rfl)))
    | lst ds =>
      refine .inl (lf Rp en (pst_bind q fun d' v B x R2 rv e h1 => ?_))
      obtain ⟨e1, e2⟩ := known hr e
      subst e1
      obtain ⟨a, vs, ev, hq, rs⟩ := lstOf_rv R2 rv rfl
      subst ev
      exact ⟨a, rfl, ⟨vs, SqL.of hq⟩, pst_ok (rel := fun B (J : It) (jt : Itr) => ItOk X.K X.w B J jt) h1 R2 (itok_list R2 rv rfl)⟩
    | ref n =>
      refine .inl (lf Rp en (pst_bind q fun d' v B x R2 rv e h1 => ?_))
      obtain ⟨e1, e2⟩ := known hr e
      subst e1
      cases hl : lstOf B.S (.ref n) with
      | none =>
        simp only [seqOf, hl] at h1
        exact h1.elim
      | some ds =>
        simp only [seqOf, hl] at h1
        obtain ⟨a, vs, ev, hq, rs⟩ := lstOf_rv R2 rv hl
        subst ev
        exact ⟨a, rfl, ⟨vs, SqL.of hq⟩, pst_ok (rel := fun B (J : It) (jt : Itr) => ItOk X.K X.w B J jt) h1 R2 (itok_list R2 rv hl)⟩
    | _ => rw [hr] at q; exact q.elim
  | exc c fs S1 =>
    refine .inl (lf Rp en (pst_bind q fun d' v B x R2 rv e h1 => ?_))
    rw [hr] at e
    cases e
  | stuck => rw [hr] at q; exact q.elim
theorem si_rng1 {x : Expr} {e : E} {p pos : Pos} (F : Fit Γ Φ k W X) (hg : Γ.glb "range" = true) (hf : isFree Φ "range" = true) (he : PE X x (LE X W Φ e)) (hs : noStar x = true) : PI X tg (.Call (.Name "range" p) [x] [] pos) (LI X W Φ (.rng1 e)) := by
  refine pi_mono (pi_bd (pi_range1 (F.gl hg).1 (F.free hf) (pa_cons he pa_nil (star_cons hs)) (star_cons hs))) fun σ H R ⟨A, ρ, eH, Rp, en, q⟩ => ?_
  subst eH
  simp only [evIt] at q
  refine lf Rp en (pst_toI q fun n B x R2 h1 => ⟨n, rfl, ?_⟩)
  split at h1
  · rename_i hn
    unfold line at hn
    refine ⟨by omega, by omega, pst_ok (rel := fun B (J : It) (jt : Itr) => ItOk X.K X.w B J jt) h1 R2 ?_⟩
    have z := itok_rng (K := X.K) (w := X.w) (A := B) (lo := 0) (n := n.toNat) (by unfold line; omega)
    simpa only [Int.zero_add] using z
  · exact h1.elim
theorem si_rng2 {x y : Expr} {e f : E} {p pos : Pos} (F : Fit Γ Φ k W X) (hg : Γ.glb "range" = true) (hf : isFree Φ "range" = true) (he : PE X x (LE X W Φ e)) (hf2 : PE X y (LE X W Φ f)) (hs : noStar x = true) (hs2 : noStar y = true) :
    PI X tg (.Call (.Name "range" p) [x, y] [] pos) (LI X W Φ (.rng2 e f)) := by
  refine pi_mono (pi_bd (pi_range2 (F.gl hg).1 (F.free hf) (pa_cons he (pa_cons hf2 pa_nil (star_cons hs2)) (star_cons hs)) (by rw [star_cons hs, star_cons hs2]; rfl) (star_cons hs2))) fun σ H R ⟨A, ρ, eH, Rp, en, q⟩ => ?_
  subst eH
  simp only [evIt] at q
  refine lf Rp en (pst_bind q fun d v B x R2 rv _ h1 => lf R2 (en.ext x) (pst_bind h1 fun d2 u C y R3 ru _ h2 => ?_))
  cases d with
  | int lo =>
    cases d2 with
    | int hi =>
      simp only [toI, Res.bind_ok] at h2
      rw [rv_int rv, rv_int ru]
      refine ⟨lo, hi, rfl, ?_⟩
      split at h2
      · rename_i hn
        unfold line at hn
        exact ⟨⟨by omega, by omega, by omega, by omega⟩, pst_ok (rel := fun B (J : It) (jt : Itr) => ItOk X.K X.w B J jt) h2 R3 (itok_rng (by unfold line; omega))⟩
      · exact h2.elim
    | _ => exact h2.elim
  | _ => exact h2.elim
theorem si_enum {x : Expr} {e : E} {p pos tpos : Pos} {elts : List Expr} {kk : Nat} (F : Fit Γ Φ k W X) (hg : Γ.glb "enumerate" = true) (hf : isFree Φ "enumerate" = true) (he : PE X x (LE X W Φ e)) (hs : noStar x = true) :
    PI X (.Tuple elts kk tpos) (.Call (.Name "enumerate" p) [x] [] pos) (LI X W Φ (.enum e)) := by
  have pa := pa_cons he pa_nil (star_cons (env := X.env) (es := []) hs)
  refine pi_mono (pi_bd (pi_two (pi_enum (F.gl hg).1 (F.free hf) pa (star_cons hs)) (pi_et (F.gl hg).1 (F.free hf) pa (star_cons hs)))) fun σ H R ⟨A, ρ, eH, Rp, en, q⟩ => ?_
  subst eH
  simp only [evIt] at q
  have tupl : ∀ {d ds S1}, evE Φ e ρ A.S = .ok d S1 → TupD d ds → LE X W Φ e σ A.H (fun x H1 => ∃ (a : Addr) (xs : List V), [x] = [V.ref a] ∧ SqT X.K H1 a xs ∧ (Bd X.K H1 → R (Iet X.K a) H1)) := fun {d ds S1} hr ht => by
    refine lf Rp en (pst_bind q fun d' v B x R2 rv e h1 => ?_)
    obtain ⟨e1, e2⟩ := known hr e
    subst e1
    obtain ⟨a, vs, ev, hq, rs⟩ := tup_rv rv ht
    subst ev
    have h2 : Pst X.K X.w X.mg (WE W σ) B (fun B (J : It) (jt : Itr) => ItOk X.K X.w B J jt) (.ok ⟨pairs 0 ds, none⟩ B.S) (fun J H1 => Bd X.K H1 → R J H1) := by rcases ht with rfl | rfl <;> exact h1
    exact ⟨a, vs, rfl, hq B (.refl B), pst_ok h2 R2 (itok_enumT rv ht)⟩
  have lstl : ∀ {d S1}, evE Φ e ρ A.S = .ok d S1 → (∀ S, seqOf S d = lstOf S d) → LE X W Φ e σ A.H (fun x H1 => ∃ (a : Addr) (xs : List V), [x] = [V.ref a] ∧ SqL X.K H1 a xs ∧ (Bd X.K H1 → R (Ite X.K a) H1)) := fun {d S1} hr hsq => by
    refine lf Rp en (pst_bind q fun d' v B x R2 rv e h1 => ?_)
    obtain ⟨e1, e2⟩ := known hr e
    subst e1
    rw [hsq] at h1
    cases hl : lstOf B.S d' with
    | none =>
      simp only [hl] at h1
      exact h1.elim
    | some ds =>
      simp only [hl] at h1
      obtain ⟨a, vs, ev, hq, rs⟩ := lstOf_rv R2 rv hl
      subst ev
      exact ⟨a, vs, rfl, SqL.of hq, pst_ok (rel := fun B (J : It) (jt : Itr) => ItOk X.K X.w B J jt) h1 R2 (itok_enum R2 rv hl)⟩
  cases hr : evE Φ e ρ A.S with
  | ok d S1 =>
    cases d with
    | tup ds => exact .inr (tupl hr (.inl rfl))
    | con ds => exact .inr (tupl hr (.inr rfl))
    | lst ds => exact .inl (lstl hr fun S => rfl)
    | ref n => exact .inl (lstl hr fun S => rfl)
    | _ => rw [hr] at q; exact q.elim
  | exc c fs S1 =>
    refine .inl (lf Rp en (pst_bind q fun d' v B x R2 rv e h1 => ?_))
    rw [hr] at e
    cases e
  | stuck => rw [hr] at q; exact q.elim
theorem si_zip {x y : Expr} {e f : E} {p pos tpos : Pos} {elts : List Expr} {kk : Nat} (F : Fit Γ Φ k W X) (hg : Γ.glb "zip" = true) (hf : isFree Φ "zip" = true) (he : PE X x (LE X W Φ e)) (hf2 : PE X y (LE X W Φ f)) (hs : noStar x = true) (hs2 : noStar y = true) :
    PI X (.Tuple elts kk tpos) (.Call (.Name "zip" p) [x, y] [] pos) (LI X W Φ (.zip2 e f)) := by
  refine pi_mono (pi_bd (RZ.pi_zipA (F.gl hg).1 (F.free hf) (pa_cons he (pa_cons hf2 pa_nil (star_cons hs2)) (star_cons hs)) (star_cons hs) (star_any (by rw [List.all_cons, hs2]; rfl)))) fun σ H R ⟨A, ρ, eH, Rp, en, q⟩ => ?_
  subst eH
  simp only [evIt] at q
  refine lf Rp en (pst_bind q fun d v B x R2 rv _ h1 => lf R2 (en.ext x) (pst_bind h1 fun d2 u C y R3 ru _ h2 => ?_))
  have rv' := rv.ext y
  cases d with
  | tup xs =>
    cases d2 with
    | tup ys =>
      obtain ⟨a, us, e1, hq1, _⟩ := tup_rv rv' (.inl rfl)
      obtain ⟨b, vs, e2, hq2, _⟩ := tup_rv ru (.inl rfl)
      subst e1 e2
      exact ⟨a, b, us, vs, rfl, .inr ⟨hq1 C (.refl C), hq2 C (.refl C), pst_ok (rel := fun B (J : It) (jt : Itr) => ItOk X.K X.w B J jt) h2 R3 (itok_zipT rv' ru)⟩⟩
    | _ => exact h2.elim
  | lst xs =>
    cases d2 with
    | lst ys =>
      obtain ⟨a, us, e1, hq1, _⟩ := lstOf_rv R3 rv' rfl
      obtain ⟨b, vs, e2, hq2, _⟩ := lstOf_rv R3 ru rfl
      subst e1 e2
      exact ⟨a, b, us, vs, rfl, .inl ⟨SqL.of hq1, SqL.of hq2, pst_ok (rel := fun B (J : It) (jt : Itr) => ItOk X.K X.w B J jt) h2 R3 (itok_zipL rv' ru)⟩⟩
    | _ => exact h2.elim
  | _ => exact h2.elim
end
end Cl

set_option linter.all false
set_option autoImplicit false
set_option maxRecDepth 100000
set_option maxHeartbeats 1000000
/-! Cl: list comprehensions. -/
namespace Cl
open PySem PySem.Spec PyProof.Rows L2

section
variable {α β γ δ : Type} {K : Frag} {w : World} {mg : Str → Option Value} {W W' : XK} {A0 A1 : Sit}
theorem nox_bind {r : Res α} {k : α → Store → Res γ} : (r.bind k).nox = r.nox.bind fun a S => (k a S).nox := by cases r <;> rfl
/-- no exception comes: whatever is asked of one -/
theorem pst_nox {r : Res α} {k : α → Store → Res γ} {rel : Sit → β → α → Prop} {rel' : Sit → δ → γ → Prop} {Q : β → Hp → Prop} {Q' : δ → Hp → Prop} (h : Pst K w mg W A0 rel' (r.nox.bind k) Q')
    (f : ∀ (a : α) (v : β) (B : Sit), Ext A1 B → Rp K w B → rel B v a → r = .ok a B.S → Pst K w mg W A0 rel' (k a B.S) Q' → Q v B.H) : Pst K w mg W' A1 rel r Q := by
  cases r with
  | ok a S1 =>
    intro v B x R e q
    subst e
    exact f a v B x R q rfl h
  | exc c fs S1 => exact h.elim
  | stuck => exact h.elim
end
/-! ### the keys of a locked dict -/
section
variable {K : Frag} {w : World} {A : Sit}
theorem rkv_get {κ : Type} {kv : List (κ × V)} {kvs : List (κ × D)} (r : RKV K w A kv kvs) {i : Nat} {q : κ} {v : V} (h : kv[i]? = some (q, v)) : ∃ d, kvs[i]? = some (q, d) := by
  induction r generalizing i with
  | nil => simp at h
  | @cons k' v' d' vs ds h1 r ih =>
    cases i with
    | zero =>
      simp at h
      exact ⟨d', by simp [h.1]⟩
    | succ i =>
      obtain ⟨d, e⟩ := ih (i := i) (by simpa using h)
      exact ⟨d, by simpa using e⟩
theorem rv_key {q : Key} (h : okK q) : RV K w A (kV q) (ofKey q) := by
  cases q with
  | inl i => exact .int i
  | inr x => exact .str x h
theorem rv_keys : ∀ {ks : List Key}, (∀ k ∈ ks, okK k) → RVs K w A (ks.map kV) (ks.map ofKey)
  | [], _ => .nil
  | k :: ks, h => .cons (rv_key (h k (List.mem_cons_self ..))) (rv_keys fun q m => h q (List.mem_cons_of_mem _ m))
theorem itok_keys {a : Addr} {ob : Obj} {n : Nat} {c : Cell} {kv : List (Key × V)} {kvs : List (Key × D)} (h : A.H a = some (.frz ob (.dK kv))) (r : RKV K w A kv kvs) (ok : ∀ p ∈ kvs, okK p.1) : ItOk K w A (Itk a ob kv) ⟨kvs.map fun p => ofKey p.1, some (n, c)⟩ := by
  have hlen : (⟨kvs.map fun p => ofKey p.1, some (n, c)⟩ : Itr).items.length = kv.length := by simp [r.length]
  refine ⟨fun bd => ?_, _, _, by rw [hlen]; exact walk_keys, fun B x _ _ => x.frzs a ob _ h, fun B i d v H' x R2 _ hi y => ?_⟩
  · rw [hlen]
    exact bd.2.2.1 a ob kv h
  · obtain ⟨e1, q, u, hq, e2⟩ := y
    obtain ⟨d', hd⟩ := rkv_get r hq
    simp only [List.getElem?_map, hd, Option.map_some, Option.some.injEq] at hi
    subst hi
    subst e2
    exact ⟨B, e1.symm, .refl B, R2, rfl, rv_key (ok _ (List.mem_of_getElem? hd))⟩
theorem itok_keysT {a : Addr} {ob : Obj} {n : Nat} {c : Cell} {kv : List (List Key × V)} {kvs : List (List Key × D)} (h : A.H a = some (.frz ob (.dT kv))) (r : RKV K w A kv kvs) (ok : ∀ p ∈ kvs, ∀ k ∈ p.1, okK k) :
    ItOk K w A (Itkt a ob kv) ⟨kvs.map fun p => .tup (p.1.map ofKey), some (n, c)⟩ := by
  have hlen : (⟨kvs.map fun p => D.tup (p.1.map ofKey), some (n, c)⟩ : Itr).items.length = kv.length := by simp [r.length]
  refine ⟨fun bd => ?_, _, _, by rw [hlen]; exact walk_keysT, fun B x _ _ => x.frzs a ob _ h, fun B i d v H' x R2 _ hi y => ?_⟩
  · rw [hlen]
    exact bd.2.2.2 a ob kv h
  · obtain ⟨e1, q, u, b, hq, e2, hb⟩ := y
    obtain ⟨d', hd⟩ := rkv_get r hq
    simp only [List.getElem?_map, hd, Option.map_some, Option.some.injEq] at hi
    subst hi
    subst e2
    exact ⟨B, e1.symm, .refl B, R2, rfl, .tup hb (rv_keys (ok _ (List.mem_of_getElem? hd)))⟩
end
/-- nothing may be raised in a comprehension -/
abbrev W0 : WX := fun _ _ _ _ => False
/-- a turn -/
noncomputable def step (Φ : Tab) (el : E) (t : Tg) (ifs : Option E) (own : List Nat) (ρ : Env) (d : D) (S : Store) : Res (Option D) := match asgT t d (wipe ρ own) with
  | none => .stuck
  | some ρ2 => (evIf Φ ifs ρ2 S).bind fun b S3 => if b then (evE Φ el ρ2 S3).bind fun y S4 => .ok (some y) S4 else .ok none S3
theorem lcL_st {jt : Itr} {f : D → Store → Res (Option D)} : ∀ {ds : List D} {S : Store}, ¬ jt.st S → lcL jt f ds S = .stuck
  | [], S, h => by rw [lcL, if_neg h]
  | _ :: _, S, h => by rw [lcL, if_neg h]
section
variable {X : Cx} {W : WX} {Φ : Tab} {Γ : Gam} {k : Nat}
/-- a comprehension's test (none or one) -/
abbrev LF (X : Cx) (W : WX) (Φ : Tab) (ifs : Option E) : TT := Lf X W rB (evIf Φ ifs)
theorem lc_main {γ δ : Type} {σ : L2.St} {B B0 : Sit} {J : It} {jt : Itr} {ρ : Env} {t : Tg} {own : List Nat} {el : E} {ifs : Option E} {D : Addr} {Wx : XK} {rel' : Sit → δ → γ → Prop} {Q' : δ → Hp → Prop} {kk : List Cl.D → Store → Res γ} {Qd : Hp → Prop}
    (R : Rp X.K X.w B) (en : EnvR X.K X.w B σ ρ) (io : ItOk X.K X.w B J jt) (bd : Bd X.K B.H) (ht : tgIn own t = true) (hD : B.H D = none)
    (h : Pst X.K X.w X.mg Wx B0 rel' ((lcL jt (step Φ el t ifs own ρ) jt.items B.S).nox.bind kk) Q')
    (hd : ∀ (C : Sit) (vs : List V) (acc : List Cl.D), Ext B C → Rp X.K X.w C → D ∈ C.pv → C.H D = some (.lst vs) → RVs X.K X.w C vs acc → jt.st C.S → Pst X.K X.w X.mg Wx B0 rel' (kk acc C.S) Q' → Qd C.H) :
    ∃ Wm : Nat → Nat → Hp → Prop, (∃ m, Wm 0 m (upd B.H D (.lst []))) ∧ ∀ i m H, Wm i m H →
      (J.stop i H ∧ Qd H) ∨ (J.go i H ∧ ∃ Nx : Hp → Prop, (∀ H', Nx H' → ∃ m', m' < m ∧ Wm (i + 1) m' H') ∧ ∀ x H', J.yld i H x H' → LG X.K X.w t x (L2.wipe σ own) H' fun σ2 H2 => L2.wipe σ2 own = L2.wipe σ own ∧ LF X W0 Φ ifs σ2 H2 fun b H3 =>
        if b = true then LE X W0 Φ el σ2 H3 fun y H4 => ∃ acc, H4 D = some (.lst acc) ∧ acc.length < sizeLine ∧ Nx (upd H4 D (.lst (acc ++ [y]))) else Nx H3) := by
  obtain ⟨G, Y, wk, wg, wy⟩ := io.walk
  have hlen := io.len bd
  have sf : ∀ vs, Soft (.lst vs) := fun vs => ⟨(fun _ z => nomatch z), (fun _ _ z => nomatch z)⟩
  have hst : ∀ {C : Sit} {ds acc}, Pst X.K X.w X.mg Wx B0 rel' ((lcL jt (step Φ el t ifs own ρ) ds C.S).nox.bind fun r S2 => kk (acc ++ r) S2) Q' → jt.st C.S := fun {C ds acc} h => by
    by_cases hs : jt.st C.S
    · exact hs
    · rw [lcL_st hs] at h
      exact h.elim
  refine lc_it wk (fun i H => ∃ (C : Sit) (vs : List V) (acc : List Cl.D), C.H = H ∧ Ext B C ∧ Rp X.K X.w C ∧ D ∈ C.pv ∧ C.H D = some (.lst vs) ∧ RVs X.K X.w C vs acc ∧ acc.length ≤ i ∧
    Pst X.K X.w X.mg Wx B0 rel' ((lcL jt (step Φ el t ifs own ρ) (jt.items.drop i) C.S).nox.bind fun r S2 => kk (acc ++ r) S2) Q') ?_ ?_ ?_ ?_
  · exact ⟨B.priv D (.lst []), [], [], rfl, ext_priv hD, rp_priv R hD, List.mem_cons_self .., upd_same, .nil, Nat.zero_le _, h⟩
  · rintro i H hi ⟨C, vs, acc, rfl, x, RC, m, hC, rs, hl, hp⟩
    exact wg C x RC (hst hp)
  · rintro i x H H' hi ⟨C, vs, acc, rfl, xC, RC, m, hC, rs, hl, hp⟩ y
    have st := hst hp
    obtain ⟨d, hdi⟩ : ∃ d, jt.items[i]? = some d := ⟨jt.items[i], by simp [hi]⟩
    have edrop : jt.items.drop i = d :: jt.items.drop (i + 1) := by
      have e := (List.getElem?_eq_some_iff.mp hdi).2
      rw [List.drop_eq_getElem_cons hi, e]
    obtain ⟨C1, e1, x1, R1, s1, rv⟩ := wy C i d x H' xC RC st hdi y
    subst e1
    rw [edrop, lcL, if_pos st, nox_bind, bind_assoc] at hp
    obtain ⟨m1, hC1⟩ := x1.priv D _ m hC
    cases ha : asgT t d (wipe ρ own) with
    | none =>
      simp only [step, ha] at hp
      exact hp.elim
    | some ρ2 =>
      simp only [step, ha] at hp
      rw [nox_bind, bind_assoc, ← s1] at hp
      refine ⟨C1, d, wipe ρ own, ρ2, rfl, (en.ext (xC.trans x1)).wipe own, rv, ha, fun σ2 en2 same => ⟨(same own ht).trans wipe_idem, ?_⟩⟩
      refine lf R1 en2 (pst_nox hp fun c b C2 x2 R2 eb _ h2 => ?_)
      cases eb
      obtain ⟨m2, hC2⟩ := x2.priv D _ m1 hC1
      have xB2 := (xC.trans x1).trans x2
      have rs2 := (rs.ext x1).ext x2
      cases c with
      | false =>
        simp only [Bool.false_eq_true, if_false] at h2 ⊢
        rw [Res.nox_ok, Res.bind_ok, nox_bind, bind_assoc] at h2
        refine ⟨C2, vs, acc, rfl, xB2, R2, m2, hC2, rs2, by omega, ?_⟩
        simpa only [Res.nox_ok, Res.bind_ok, Option.toList_none, List.nil_append] using h2
      | true =>
        simp only [if_true] at h2 ⊢
        rw [nox_bind, bind_assoc] at h2
        refine lf R2 (en2.ext x2) (pst_nox h2 fun d' y C3 x3 R3 ry _ h3 => ?_)
        obtain ⟨m3, hC3⟩ := x3.priv D _ m2 hC2
        have rs3 := rs2.ext x3
        rw [Res.nox_ok, Res.bind_ok, nox_bind, bind_assoc] at h3
        refine ⟨vs, hC3, ?_, ?_⟩
        · rw [rs.length, ← line_eq]
          omega
        · refine ⟨C3.pset D (.lst (vs ++ [y])), vs ++ [y], acc ++ [d'], rfl, ext_pset (xB2.trans x3) hD m3 hC3 (sf vs), rp_pset R3 m3 hC3 (sf vs), m3, upd_same, ?_, ?_, ?_⟩
          · exact (rs3.append (.cons ry .nil)).ext0 (ext0_pset m3 hC3 (sf vs))
          · rw [List.length_append]
            show acc.length + 1 ≤ i + 1
            omega
          · show Pst X.K X.w X.mg Wx B0 rel' ((lcL jt (step Φ el t ifs own ρ) (jt.items.drop (i + 1)) C3.S).nox.bind _) Q'
            simpa only [Res.nox_ok, Res.bind_ok, Option.toList_some, List.append_assoc] using h3
  · rintro H ⟨C, vs, acc, rfl, xC, RC, m, hC, rs, hl, hp⟩
    have st := hst hp
    rw [List.drop_eq_nil_of_le (Nat.le_refl _), lcL, if_pos st, Res.nox_ok, Res.bind_ok, List.append_nil] at hp
    exact hd C vs acc xC RC m hC rs st hp
/-- the new list is a value, or a cell -/
theorem lc_fin {B B0 C : Sit} {D : Addr} {nw : Bool} {Wx : XK} {Q : VK} {vs : List V} {acc : List Cl.D} (x : Ext B C) (x0 : Ext B0 B) (hD : B.H D = none) (hD0 : B0.H D = none) (R : Rp X.K X.w C) (m : D ∈ C.pv) (hC : C.H D = some (.lst vs)) (rs : RVs X.K X.w C vs acc)
    (h : Pst X.K X.w X.mg Wx B0 (RV X.K X.w) (mk nw acc C.S) Q) : Q (.ref D) C.H := by
  cases nw with
  | false => exact pst_at (B := C.open_ D) h (ext_open (x0.trans x) hD0) (rp_open R) rfl (.lst ⟨hC, fz_open R m⟩ (rs.ext0 ext0_open))
  | true =>
    refine pst_at (B := C.opcell D (.lst acc)) h (ext_opcell (x0.trans x) hD0 R m) (rp_opcell R m ⟨vs, hC, rs.ext0 (ext0_opcell R m)⟩) rfl (.ref ?_)
    rw [← R.len]
    exact go_mk.getElem?_snoc_self
theorem lc_read {nw : Bool} {el : E} {t : Tg} {it : E} {ifs : Option E} {own : List Nat} (ht : tgIn own t = true) {σ : L2.St} {H : Hp} {Q : VK} (q : LE X W Φ (.lc nw el t it ifs own) σ H Q) :
    tLc (LI X W Φ it) (LG X.K X.w t) (LF X W0 Φ ifs) (LE X W0 Φ el) own σ H Q := by
  obtain ⟨A, ρ, eH, R, en, q⟩ := q
  subst eH
  simp only [evE] at q
  refine lf R en (pst_bind q fun jt J B x R2 io _ h1 => fun bd D hD => ?_)
  exact lc_main R2 (en.ext x) io bd ht hD h1 fun C vs acc xC RC m hC rs st h2 => lc_fin xC (.refl B) hD hD RC m hC rs h2
/-- over the keys of a dict in a cell, which is locked meanwhile -/
theorem lcd_read {nw : Bool} {el : E} {t : Tg} {i : Nat} {ifs : Option E} {own : List Nat} (ht : tgIn own t = true) {σ : L2.St} {H : Hp} {Q : VK} (q : LE X W Φ (.lcd nw el t i ifs own) σ H Q) :
    tLockE (tLc (fun σ H R => iKeys (tVar i) σ H fun J H1 => Bd X.K H1 → R J H1) (LG X.K X.w t) (LF X W0 Φ ifs) (LE X W0 Φ el) own) σ H Q := by
  obtain ⟨A, ρ, eH, R, en, q⟩ := q
  subst eH
  simp only [evE] at q
  split at q
  · rename_i n hρ
    split at q
    · rename_i c hc
      split at q
      · rename_i ks c' hk
        obtain ⟨v, hv, rv⟩ := en.2 i _ hρ
        cases rv with
        | @ref a _ hn =>
          have hf : c.free = true := by
            cases c with
            | dK kvs l => cases l <;> first | rfl | (simp only [dkeys] at hk; cases hk)
            | dT kvs l => cases l <;> first | rfl | (simp only [dkeys] at hk; cases hk)
            | _ => simp only [dkeys] at hk; cases hk
          have hn' : c'.free = false ∧ c' ≠ .dead := by
            cases c with
            | dK kvs l => cases l <;> simp only [dkeys] at hk <;> cases hk; exact ⟨rfl, (fun z => nomatch z)⟩
            | dT kvs l => cases l <;> simp only [dkeys] at hk <;> cases hk; exact ⟨rfl, (fun z => nomatch z)⟩
            | _ => simp only [dkeys] at hk; cases hk
          have ok := R.cell n a c hn hc
          -- what follows is the same for both kinds of keys
          have core : ∀ (u : HO) (J : Obj → It), A.H a = some u → (∀ ob, CellOk X.K X.w (A.put n a (.frz ob u) c') a c') → (∀ ob (C : Sit), Ext (A.put n a (.frz ob u) c') C → Rp X.K X.w C → CellOk X.K X.w (C.put n a u c) a c) →
              (∀ ob, ItOk X.K X.w (A.put n a (.frz ob u) c') (J ob) ⟨ks, some (n, c')⟩) → (∀ ob (R' : It → Hp → Prop), R' (J ob) (upd A.H a (.frz ob u)) → iKeys (tVar i) σ (upd A.H a (.frz ob u)) R') → Mut (some u) →
              tLockE (tLc (fun σ H R => iKeys (tVar i) σ H fun J H1 => Bd X.K H1 → R J H1) (LG X.K X.w t) (LF X W0 Φ ifs) (LE X W0 Φ el) own) σ A.H Q := fun u J hu ok1 ok2 io ik mu => by
            refine ⟨a, u, hu, mu, fun ob => ?_⟩
            unfold tLc
            refine ik ob _ ?_
            intro bd D hD
            have x1 : Ext A (A.put n a (.frz ob u) c') := ext_put R hn hc hf
            have R1 : Rp X.K X.w (A.put n a (.frz ob u) c') := rp_put R hn hc hf (ok1 ob)
            have hD0 : A.H D = none := by
              by_cases e : D = a
              · subst e
                have hD : upd A.H D (.frz ob u) D = none := hD
                rw [upd_same] at hD
                cases hD
              · have hD : upd A.H a (.frz ob u) D = none := hD
                rw [upd_ne e] at hD
                exact hD
            refine lc_main (B := A.put n a (.frz ob u) c') (B0 := A) R1 (en.ext x1) (io ob) bd ht hD q fun C vs acc xC RC m hC rs st h2 => ?_
            have hfr := xC.frzs a ob u upd_same
            refine ⟨hfr, ?_⟩
            have hCn : C.m[n]? = some a := xC.ix (show (A.put n a (.frz ob u) c').m[n]? = some a from hn)
            have hCs : C.S[n]? = some c' := st
            have hDa : D ≠ a := fun e => by
              subst e
              rw [hu] at hD0
              cases hD0
            -- the list's address is no more private; then the dict's cell is unlocked
            have x2 : Ext A (C.put n a u c) := ext_unl R hn hc hf (x1.trans xC)
            have R2 : Rp X.K X.w (C.put n a u c) := rp_unl RC hCn hCs hn'.2 (by rw [hfr]; exact fun xs z => nomatch z) (ok2 ob C xC RC)
            have m2 : D ∈ (C.put n a u c).pv := m
            have hC2 : (C.put n a u c).H D = some (.lst vs) := (upd_ne hDa).trans hC
            have xr : ExtR C (C.put n a u c) := by
              refine ⟨⟨[], by simp [Sit.put]⟩, fun b v h q => ?_, fun b xs h => (upd_ne fun e => by rw [e, hfr] at h; cases h).trans h⟩
              have hb : b ≠ a := fun e => by
                subst e
                exact hn'.2 (q.2 n c' hCn hCs)
              refine ⟨(upd_ne hb).trans h, q.1, fun j cj hj hcj => ?_⟩
              rcases set_get hcj with ⟨e, _⟩ | ⟨_, h2⟩
              · subst e
                have hj' : C.m[j]? = some b := hj
                rw [hCn] at hj'
                exact absurd (Option.some.inj hj').symm hb
              · exact q.2 j cj hj h2
            exact lc_fin x2 (.refl A) hD0 hD0 R2 m2 hC2 (rs.extR xr) h2
          cases c with
          | dK kvs l =>
            cases l with
            | true => simp only [dkeys] at hk; cases hk
            | false =>
              simp only [dkeys] at hk
              cases hk
              obtain ⟨kv, hu, rk, okk⟩ := ok
              have hu : A.H a = some (.dK kv) := hu
              refine core (.dK kv) (fun ob => Itk a ob kv) hu (fun ob => ⟨kv, ⟨ob, upd_same⟩, rk.ext (ext_put R hn hc hf), okk⟩) (fun ob C xC RC => ⟨kv, upd_same, rk.ext (ext_unl R hn hc hf ((ext_put R hn hc hf).trans xC)), okk⟩) (fun ob => ?_) (fun ob R' h => ⟨.ref a, hv, a, ob, rfl, .inl ⟨kv, upd_same, h⟩⟩) trivial
              exact itok_keys upd_same (rk.ext (ext_put R hn hc hf)) okk
          | dT kvs l =>
            cases l with
            | true => simp only [dkeys] at hk; cases hk
            | false =>
              simp only [dkeys] at hk
              cases hk
              obtain ⟨kv, hu, rk, okk⟩ := ok
              have hu : A.H a = some (.dT kv) := hu
              refine core (.dT kv) (fun ob => Itkt a ob kv) hu (fun ob => ⟨kv, ⟨ob, upd_same⟩, rk.ext (ext_put R hn hc hf), okk⟩) (fun ob C xC RC => ⟨kv, upd_same, rk.ext (ext_unl R hn hc hf ((ext_put R hn hc hf).trans xC)), okk⟩) (fun ob => ?_) (fun ob R' h => ⟨.ref a, hv, a, ob, rfl, .inr ⟨kv, upd_same, h⟩⟩) trivial
              exact itok_keysT upd_same (rk.ext (ext_put R hn hc hf)) okk
          | _ => simp only [dkeys] at hk; cases hk
      · exact q.elim
    · exact q.elim
  · exact q.elim
end
end Cl

set_option linter.all false
set_option autoImplicit false
set_option maxRecDepth 100000
set_option maxHeartbeats 2000000
/-! Cl: the check of an expression against the syntax, and that it is sound. -/
namespace Cl
open PySem PySem.Spec PyProof.Rows L2

def ownOf (Γ : Gam) (own : List Nat) : List (Str × Nat) := own.map fun i => ((Γ.N[i]?).getD "", i)
theorem ownOf_snd (Γ : Gam) (own : List Nat) : (ownOf Γ own).map (·.2) = own := by
  unfold ownOf
  rw [List.map_map]
  exact List.map_id own
def cMt : Mt → Nat → Bool
  | .append, 1 | .pop, 0 | .popAt, 1 | .remove, 1 | .join, 1 | .extend, 1 | .get1, 1 | .get2, 2 => true
  | _, _ => false
def opB (a b : Operator) : Bool := decide (a = b)
section
variable (Φ : Tab)
mutual
def cE : Gam → E → Expr → Bool
  | Γ, .var i, x => match asName x with
    | some y => Γ.vis i y
    | none => false
  | Γ, .lit d, x => match asConst x with
    | some c => litB d c
    | none => false
  | Γ, .glo i, x => match asName x, Φ[i]? with
    | some y, some (.con z _) => decide (y = z) && Γ.glb y
    | _, _ => false
  | Γ, .call i as, x => match asCall x, Φ[i]? with
    | some (f, xs, [], _), some (.fn z ps _) => (match asName f with
      | some y => decide (y = z) && Γ.glb y && decide (as.length = ps.length) && !xs.isEmpty && cEs Γ as xs
      | none => false)
    | _, _ => false
  | Γ, .callk i as, x => match asCall x, Φ[i]? with
    | some (f, [], kws, _), some (.kw z ks _ _) => (match asName f with
      | some y => decide (y = z) && Γ.glb y && decide (kwNames kws = ks) && kwAll kws && cEs Γ as (kwVals kws)
      | none => false)
    | _, _ => false
  | Γ, .bin op _ a b, x => match asBin x with
    | some (l, o, r) => opB o op.op && cE Γ a l && cE Γ b r
    | none => false
  | Γ, .neg a, x => match asUn x with
    | some (.USub, y) => cE Γ a y
    | _ => false
  | Γ, .not_ a, x => match asUn x with
    | some (.Not, y) => cE Γ a y
    | _ => false
  | Γ, .and_ as, x => match asBool x with
    | some (.And, xs) => !xs.isEmpty && cEs Γ as xs
    | _ => false
  | Γ, .or_ as, x => match asBool x with
    | some (.Or, xs) => !xs.isEmpty && cEs Γ as xs
    | _ => false
  | Γ, .ife t a b, x => match asIf x with
    | some (y, l, r) => cE Γ t y && cE Γ a l && cE Γ b r
    | none => false
  | Γ, .cmp op a b, x => match asCmp x with
    | some (l, [o], [r]) => decide (o = op.op) && noSet r && cE Γ a l && cE Γ b r
    | _ => false
  | Γ, .cmp2 o1 o2 a b c, x => match asCmp x with
    | some (l, [p1, p2], [m, r]) => decide (p1 = o1.op) && decide (p2 = o2.op) && noSet m && noSet r && cE Γ a l && cE Γ b m && cE Γ c r
    | _ => false
  | Γ, .tup as, x => match asTup x with
    | some xs => decide (as.length ≤ 10000) && cEs Γ as xs
    | none => false
  | Γ, .lst _ as, x => match asList x with
    | some xs => decide (as.length ≤ 10000) && cEs Γ as xs
    | none => false
  | Γ, .dic _ as, x => match asDict x with
    | some (ks, vs) => decide (ks.length = vs.length) && ks.all (·.isSome) && decide (ks.length ≤ 15) && cEs Γ as (flat ks vs)
    | none => false
  | _, .dict0, x => match asDict x with
    | some ([], []) => true
    | _ => false
  | Γ, .lc _ el t it ifs own, x => match asComp x with
    | some (l, tg, i, fs, sc) => blkC Γ.N Γ.sc sc (ownOf Γ own) && tgIn own t && cT (Γ.blk sc) t tg && noSet i && cIt Γ it tg i && cIf (Γ.blk sc) ifs fs && cE (Γ.blk sc) el l
    | none => false
  | Γ, .lcd _ el t v ifs own, x => match asComp x with
    | some (l, tg, i, fs, sc) => (match asName i with
      | some y => blkC Γ.N Γ.sc sc (ownOf Γ own) && tgIn own t && cT (Γ.blk sc) t tg && Γ.vis v y && cIf (Γ.blk sc) ifs fs && cE (Γ.blk sc) el l
      | none => false)
    | none => false
  | Γ, .bi b _ as, x => match asCall x with
    | some (f, xs, [], _) => (match asName f with
      | some y => decide (y = b.nm) && Γ.glb y && isFree Φ y && !xs.isEmpty && cEs Γ as xs
      | none => false)
    | _ => false
  | Γ, .isi a t, x => match asCall x with
    | some (f, [y, T], [], _) => (match asName f, asName T with
      | some g, some z => decide (g = "isinstance") && Γ.glb g && isFree Φ g && decide (z = t.nm) && Γ.glb z && isFree Φ z && noStar y && cE Γ a y
      | _, _ => false)
    | _ => false
  | Γ, .mt m o as, x => match asCall x with
    | some (f, xs, [], p) => (match asAttr f with
      | some (ob, nm, ap) => decide (nm = m.nm) && (ap.endLine == p.line) && noBare ob && cE Γ o ob && cMt m as.length && cEs Γ as xs
      | none => false)
    | _ => false
  | Γ, .idx a i, x => match asSub x with
    | some (l, r) => noSlice r && cE Γ a l && cE Γ i r
    | none => false
  | Γ, .sl _ a lo hi, x => match asSub x with
    | some (l, r) => (match asSlice r with
      | some (u, v) => cE Γ a l && cO Γ lo u && cO Γ hi v
      | none => false)
    | none => false
  | Γ, .rev _ a, x => match asSub x with
    | some (l, r) => isRev r && cE Γ a l
    | none => false
  | Γ, .fs as, x => match asJoin x with
    | some xs => !xs.isEmpty && cEs Γ as xs
    | none => false
  | Γ, .fv a, x => match asFmt x with
    | some y => cE Γ a y
    | none => false
  | _, .rng1 _, _ => false
  | _, .rng2 _ _, _ => false
  | _, .enum _, _ => false
  | _, .zip2 _ _, _ => false
  | _, .walk _, _ => false
def cEs : Gam → List E → List Expr → Bool
  | _, [], [] => true
  | Γ, e :: es, x :: xs => cE Γ e x && noStar x && cEs Γ es xs
  | _, [], _ :: _ => false
  | _, _ :: _, [] => false
def cO : Gam → Option E → Option Expr → Bool
  | _, none, none => true
  | Γ, some e, some x => cE Γ e x
  | _, _, _ => false
def cIf : Gam → Option E → List Expr → Bool
  | _, none, [] => true
  | Γ, some e, [x] => cE Γ e x
  | _, _, _ => false
def cIt : Gam → E → Expr → Expr → Bool
  | Γ, .rng1 a, _, x => match asCall x with
    | some (f, [y], [], _) => (match asName f with
      | some g => decide (g = "range") && Γ.glb g && isFree Φ g && noStar y && cE Γ a y
      | none => false)
    | _ => false
  | Γ, .rng2 a b, _, x => match asCall x with
    | some (f, [y, z], [], _) => (match asName f with
      | some g => decide (g = "range") && Γ.glb g && isFree Φ g && noStar y && noStar z && cE Γ a y && cE Γ b z
      | none => false)
    | _ => false
  | Γ, .enum a, tg, x => match asCall x with
    | some (f, [y], [], _) => (match asName f, asTup tg with
      | some g, some _ => decide (g = "enumerate") && Γ.glb g && isFree Φ g && noStar y && cE Γ a y
      | _, _ => false)
    | _ => false
  | Γ, .zip2 a b, tg, x => match asCall x with
    | some (f, [y, z], [], _) => (match asName f, asTup tg with
      | some g, some _ => decide (g = "zip") && Γ.glb g && isFree Φ g && noStar y && noStar z && cE Γ a y && cE Γ b z
      | _, _ => false)
    | _ => false
  | Γ, .walk e, _, x => cE Γ e x
  | _, _, _, _ => false
end
end

theorem tk0 {X : Cx} : Takes X W0 := fun _ _ x => by
  obtain ⟨_, _, _, _, _, _, _, _, _, _, _, _, _, _, _, _, z⟩ := x
  exact z.elim
section
variable {X : Cx} {W : WX} {Φ : Tab} {Γ : Gam} {k : Nat}
theorem Fit.blk (F : Fit Γ Φ k W X) {scope : Scope} {own : List (Str × Nat)} (ok : BlkOk X.N X.env.scope scope own) (s : Shared) (H : Hp) (C : Addr) (cl : List (Str × Addr)) (fp : List Addr) :
    Fit (Γ.blk scope) Φ k W0 (X.blk s H scope (compEnvC scope cl C X.env) fp) where
  N := F.N
  nd := F.nd
  sc := by
    show relS scope X.env.scope = relS scope Γ.sc
    rw [F.sc]
  kd := ok.kind
  fn := fun y h => h
  calm := F.calm
  room := F.room
  tk := tk0
  us := F.us
theorem lc_parts (F : Fit Γ Φ k W X) {el : E} {t : Tg} {ifs : Option E} {own : List Nat} {l tg : Expr} {fs : List Expr} {sc : Scope} (hb : blkC Γ.N Γ.sc sc (ownOf Γ own) = true) (hT : cT (Γ.blk sc) t tg = true)
    (hf : ∀ X' W', Fit (Γ.blk sc) Φ k W' X' → PTs X' fs (LF X' W' Φ ifs)) (he : ∀ X' W', Fit (Γ.blk sc) Φ k W' X' → SE X' W' Φ el l) :
    ∃ ok : BlkOk X.N X.env.scope sc (ownOf Γ own), (∀ (s : Shared) (H : Hp) (C : Addr) (cl : List (Str × Addr)) (fp : List Addr), PG (X.blk s H sc (compEnvC sc cl C X.env) fp) tg (LG X.K X.w t)) ∧
      (∀ (s : Shared) (H : Hp) (C : Addr) (cl : List (Str × Addr)) (fp : List Addr), PTs (X.blk s H sc (compEnvC sc cl C X.env) fp) fs (LF X W0 Φ ifs)) ∧
      ∀ (s : Shared) (H : Hp) (C : Addr) (cl : List (Str × Addr)) (fp : List Addr), PE (X.blk s H sc (compEnvC sc cl C X.env) fp) l (LE X W0 Φ el) := by
  have ok : BlkOk X.N X.env.scope sc (ownOf Γ own) := by rw [F.N, F.sc]; exact blkOk_by hb
  refine ⟨ok, fun s H C cl fp => ?_, fun s H C cl fp => ?_, fun s H C cl fp => ?_⟩
  · have G := F.blk ok s H C cl fp
    exact sg G.N G.nd G.sc G.fn G.calm t tg hT
  · exact hf _ _ (F.blk ok s H C cl fp)
  · exact (he _ _ (F.blk ok s H C cl fp)).1
theorem se_lc {nw : Bool} {el it : E} {t : Tg} {ifs : Option E} {own : List Nat} {l tg i : Expr} {fs : List Expr} {sc : Scope} {p : Pos} (F : Fit Γ Φ k W X) (hb : blkC Γ.N Γ.sc sc (ownOf Γ own) = true) (ht : tgIn own t = true) (hT : cT (Γ.blk sc) t tg = true) (hs : noSet i = true)
    (hi : PI X tg i (LI X W Φ it)) (hf : ∀ X' W', Fit (Γ.blk sc) Φ k W' X' → PTs X' fs (LF X' W' Φ ifs)) (he : ∀ X' W', Fit (Γ.blk sc) Φ k W' X' → SE X' W' Φ el l) :
    SE X W Φ (.lc nw el t it ifs own) (.ListComp l [⟨tg, i, fs, 0⟩] sc p) := by
  obtain ⟨ok, h1, h2, h3⟩ := lc_parts F hb hT hf he
  refine se_val (pe_mono (pe_lc F.calm F.nd hi ok h1 h2 h3 (noFold hs)) fun σ H Q q => ?_) fun _ => rfl
  rw [ownOf_snd]
  exact lc_read ht q
theorem se_lcd {nw : Bool} {el : E} {v : Nat} {y : Str} {t : Tg} {ifs : Option E} {own : List Nat} {l tg : Expr} {fs : List Expr} {sc : Scope} {p p2 : Pos} (F : Fit Γ Φ k W X) (hb : blkC Γ.N Γ.sc sc (ownOf Γ own) = true) (ht : tgIn own t = true) (hT : cT (Γ.blk sc) t tg = true)
    (hv : Γ.vis v y = true) (hf : ∀ X' W', Fit (Γ.blk sc) Φ k W' X' → PTs X' fs (LF X' W' Φ ifs)) (he : ∀ X' W', Fit (Γ.blk sc) Φ k W' X' → SE X' W' Φ el l) :
    SE X W Φ (.lcd nw el t v ifs own) (.ListComp l [⟨tg, .Name y p2, fs, 0⟩] sc p) := by
  obtain ⟨ok, h1, h2, h3⟩ := lc_parts F hb hT hf he
  have hv' := hv
  unfold Gam.vis at hv'
  rw [Bool.and_eq_true, Bool.and_eq_true, decide_eq_true_eq] at hv'
  have hvis : Vis X.env.scope y := by
    have h2 := hv'.1.2
    unfold visB at h2
    unfold Vis
    rw [F.sc]
    split at h2
    · exact .inl (by assumption)
    · exact .inr (.inl (by assumption))
    · exact .inr (.inr (by assumption))
    · cases h2
  have pv : PE X (.Name y p2) (tVar v) := pe_var (by rw [F.N]; exact hv'.1.1) hvis (nm_d hv'.2) (nm_c hv'.2)
  refine se_val (pe_mono (pe_lock (pe_lc F.calm F.nd (pi_bd (pi_keys pv)) ok h1 h2 h3 (noFold rfl))) fun σ H Q q => ?_) fun _ => rfl
  rw [ownOf_snd]
  exact lcd_read ht q

/-- a test of the form a if t else b -/
theorem st_ife {t a b : Expr} {et ea eb : E} {p : Pos} (ht : SE X W Φ et t) (ha : SE X W Φ ea a) (hb : SE X W Φ eb b) : PT X (.IfExp t a b p) (LT X W Φ (.ife et ea eb)) := by
  refine ⟨fun pins s σ H Q I ⟨A, ρ, eH, R, en, q⟩ => ?_⟩
  subst eH
  simp only [evE] at q
  rw [bind_assoc] at q
  have q' : LT X W Φ et σ A.H fun b' H1 => if b' = true then LT X W Φ ea σ H1 Q else LT X W Φ eb σ H1 Q := by
    refine lt_ R en (pst_bind (rel := rB) q fun c b' B x R2 e _ h1 => ?_)
    cases e
    cases c with
    | true => exact lt_ R2 (en.ext x) h1
    | false => exact lt_ R2 (en.ext x) h1
  unfold PySem.isTrue
  refine wpAny_bind (thn (ht.2.run pins s σ _ _ I q') fun c s1 ⟨H1, I1, q1⟩ => ?_)
  cases c with
  | true => exact ha.2.run pins s1 σ H1 Q I1 q1
  | false => exact hb.2.run pins s1 σ H1 Q I1 q1
theorem sf_none : PTs X [] (LF X W Φ none) := ⟨fun pins s σ H Q I ⟨A, ρ, eH, R, en, q⟩ => pts_nil.run pins s σ H Q I (by
  subst eH
  simp only [evIf] at q
  exact pst_ok (rel := rB) (a := true) q R rfl)⟩
theorem sf_some {x : Expr} {e : E} (h : PT X x (LT X W Φ e)) : PTs X [x] (LF X W Φ (some e)) := ⟨fun pins s σ H Q I ⟨A, ρ, eH, R, en, q⟩ => (pts_one h).run pins s σ H Q I (by
  subst eH
  simp only [evIf] at q
  exact lt_ R en q)⟩
theorem mt_all {m : Mt} {o : Expr} {xs : List Expr} {eo : E} {as : List E} {apos cpos : Pos} (F : Fit Γ Φ k W X) (ho : PE X o (LE X W Φ eo)) (ha : SEs X W Φ as xs) (hb : noBare o = true) (hl : (apos.endLine == cpos.line) = true) (hm : cMt m as.length = true) :
    SE X W Φ (.mt m eo as) (.Call (.Attribute o m.nm apos) xs [] cpos) := by
  have one : as.length = 1 → ∃ e x, as = [e] ∧ xs = [x] ∧ SE X W Φ e x ∧ noStar x = true := fun h => by
    cases ha with
    | nil => cases h
    | cons h1 n1 r => cases r with
      | nil => exact ⟨_, _, rfl, rfl, h1, n1⟩
      | cons _ _ _ => simp at h
  have two : as.length = 2 → ∃ e x f y, as = [e, f] ∧ xs = [x, y] ∧ SE X W Φ e x ∧ noStar x = true ∧ SE X W Φ f y ∧ noStar y = true := fun h => by
    cases ha with
    | nil => cases h
    | cons h1 n1 r => cases r with
      | nil => simp at h
      | cons h2 n2 r => cases r with
        | nil => exact ⟨_, _, _, _, rfl, rfl, h1, n1, h2, n2⟩
        | cons _ _ _ => simp at h
  have zero : as.length = 0 → as = [] ∧ xs = [] := fun h => by
    cases ha with
    | nil => exact ⟨rfl, rfl⟩
    | cons _ _ _ => cases h
  have n1 : ∀ {m : Mt} {n : Nat}, m = .append ∨ m = .remove ∨ m = .extend ∨ m = .popAt ∨ m = .join ∨ m = .get1 → cMt m n = true → n = 1 := fun {m n} hm h => by
    rcases hm with rfl | rfl | rfl | rfl | rfl | rfl <;> (match n, h with | 1, _ => rfl)
  cases m with
  | pop =>
    obtain ⟨rfl, rfl⟩ := zero (by match as.length, hm with | 0, _ => rfl)
    exact se_pop ho hb hl
  | get2 =>
    obtain ⟨e, x, f, y, rfl, rfl, h1, n1, h2, n2⟩ := two (by match as.length, hm with | 2, _ => rfl)
    exact se_get2 F ho h1.1 h2.1 n1 n2 hb hl
  | get1 =>
    obtain ⟨e, x, rfl, rfl, h1, n1⟩ := one (n1 (by simp) hm)
    exact se_get1 F ho h1.1 n1 hb hl
  | append =>
    obtain ⟨e, x, rfl, rfl, h1, n1⟩ := one (n1 (by simp) hm)
    exact se_mt1 F (by simp) ho h1 n1 hb hl
  | remove =>
    obtain ⟨e, x, rfl, rfl, h1, n1⟩ := one (n1 (by simp) hm)
    exact se_mt1 F (by simp) ho h1 n1 hb hl
  | extend =>
    obtain ⟨e, x, rfl, rfl, h1, n1⟩ := one (n1 (by simp) hm)
    exact se_mt1 F (by simp) ho h1 n1 hb hl
  | popAt =>
    obtain ⟨e, x, rfl, rfl, h1, n1⟩ := one (n1 (by simp) hm)
    exact se_mt1 F (by simp) ho h1 n1 hb hl
  | join =>
    obtain ⟨e, x, rfl, rfl, h1, n1⟩ := one (n1 (by simp) hm)
    exact se_mt1 F (by simp) ho h1 n1 hb hl

mutual
theorem soundE : ∀ (e : E) (Γ : Gam) (x : Expr), cE Φ Γ e x = true → ∀ (X : Cx) (W : WX), Fit Γ Φ k W X → SE X W Φ e x
  | .var i, Γ, x, h, X, W, F => by
    simp only [cE] at h
    split at h
    · rename_i y hx
      obtain ⟨p, rfl⟩ := asName_eq hx
      exact se_var F h
    · cases h
  | .lit d, Γ, x, h, X, W, F => by
    simp only [cE] at h
    split at h
    · rename_i c hx
      obtain ⟨j, p, rfl⟩ := asConst_eq hx
      exact se_lit h
    · cases h
  | .glo i, Γ, x, h, X, W, F => by
    simp only [cE] at h
    split at h
    · rename_i y z d hx hu
      obtain ⟨p, rfl⟩ := asName_eq hx
      rw [Bool.and_eq_true, decide_eq_true_eq] at h
      obtain ⟨rfl, h⟩ := h
      exact se_glo F h hu
    · cases h
  | .call i as, Γ, x, h, X, W, F => by
    simp only [cE] at h
    split at h
    · rename_i f xs pos z ps Fn' hx hu
      have := asCall_eq hx
      subst this
      split at h
      · rename_i y hf
        obtain ⟨p, rfl⟩ := asName_eq hf
        simp only [Bool.and_eq_true, decide_eq_true_eq] at h
        obtain ⟨⟨⟨⟨rfl, h1⟩, h2⟩, h3⟩, h4⟩ := h
        have as' := soundEs as Γ xs h4 X W F
        cases xs with
        | nil => cases h3
        | cons a xs => exact se_call F h1 hu h2 as'.pa as'.star
      · cases h
    · cases h
  | .callk i as, Γ, x, h, X, W, F => by
    simp only [cE] at h
    split at h
    · rename_i f kws pos z ks pi Fn' hx hu
      have := asCall_eq hx
      subst this
      split at h
      · rename_i y hf
        obtain ⟨p, rfl⟩ := asName_eq hf
        simp only [Bool.and_eq_true, decide_eq_true_eq] at h
        obtain ⟨⟨⟨⟨rfl, h1⟩, rfl⟩, h3⟩, h4⟩ := h
        exact se_callk F h1 hu (soundEs as Γ _ h4 X W F) h3
      · cases h
    · cases h
  | .bin op nw a b, Γ, x, h, X, W, F => by
    simp only [cE] at h
    split at h
    · rename_i l o r hx
      obtain ⟨p, rfl⟩ := asBin_eq hx
      simp only [Bool.and_eq_true, opB, decide_eq_true_eq] at h
      obtain ⟨⟨rfl, h1⟩, h2⟩ := h
      exact se_bin (soundE a Γ l h1 X W F).1 (soundE b Γ r h2 X W F).1
    · cases h
  | .neg a, Γ, x, h, X, W, F => by
    simp only [cE] at h
    split at h
    · rename_i y hx
      obtain ⟨p, rfl⟩ := asUn_eq hx
      exact se_neg (soundE a Γ y h X W F).1
    · cases h
  | .not_ a, Γ, x, h, X, W, F => by
    simp only [cE] at h
    split at h
    · rename_i y hx
      obtain ⟨p, rfl⟩ := asUn_eq hx
      exact se_not (soundE a Γ y h X W F)
    · cases h
  | .and_ as, Γ, x, h, X, W, F => by
    simp only [cE] at h
    split at h
    · rename_i xs hx
      obtain ⟨p, rfl⟩ := asBool_eq hx
      rw [Bool.and_eq_true] at h
      exact se_and (soundEs as Γ xs h.2 X W F) (by rintro rfl; exact absurd h.1 (by decide))
    · cases h
  | .or_ as, Γ, x, h, X, W, F => by
    simp only [cE] at h
    split at h
    · rename_i xs hx
      obtain ⟨p, rfl⟩ := asBool_eq hx
      rw [Bool.and_eq_true] at h
      exact se_or (soundEs as Γ xs h.2 X W F) (by rintro rfl; exact absurd h.1 (by decide))
    · cases h
  | .ife t a b, Γ, x, h, X, W, F => by
    simp only [cE] at h
    split at h
    · rename_i y l r hx
      obtain ⟨p, rfl⟩ := asIf_eq hx
      simp only [Bool.and_eq_true] at h
      have s1 := soundE t Γ y h.1.1 X W F
      have s2 := soundE a Γ l h.1.2 X W F
      have s3 := soundE b Γ r h.2 X W F
      exact ⟨se_ife s1 s2 s3, st_ife s1 s2 s3⟩
    · cases h
  | .cmp op a b, Γ, x, h, X, W, F => by
    simp only [cE] at h
    split at h
    · rename_i l o r hx
      obtain ⟨p, rfl⟩ := asCmp_eq hx
      simp only [Bool.and_eq_true, decide_eq_true_eq] at h
      obtain ⟨⟨⟨rfl, h1⟩, h2⟩, h3⟩ := h
      exact se_cmp F (soundE a Γ l h2 X W F).1 (soundE b Γ r h3 X W F).1 h1
    · cases h
  | .cmp2 o1 o2 a b c, Γ, x, h, X, W, F => by
    simp only [cE] at h
    split at h
    · rename_i l p1 p2 m r hx
      obtain ⟨p, rfl⟩ := asCmp_eq hx
      simp only [Bool.and_eq_true, decide_eq_true_eq] at h
      obtain ⟨⟨⟨⟨⟨⟨rfl, rfl⟩, h1⟩, h2⟩, h3⟩, h4⟩, h5⟩ := h
      exact se_cmp2 F (soundE a Γ l h3 X W F).1 (soundE b Γ m h4 X W F).1 (soundE c Γ r h5 X W F).1 h1 h2
    · cases h
  | .tup as, Γ, x, h, X, W, F => by
    simp only [cE] at h
    split at h
    · rename_i xs hx
      obtain ⟨j, p, rfl⟩ := asTup_eq hx
      rw [Bool.and_eq_true, decide_eq_true_eq] at h
      exact se_tup (soundEs as Γ xs h.2 X W F) (by unfold line; omega)
    · cases h
  | .lst nw as, Γ, x, h, X, W, F => by
    simp only [cE] at h
    split at h
    · rename_i xs hx
      obtain ⟨p, rfl⟩ := asList_eq hx
      rw [Bool.and_eq_true, decide_eq_true_eq] at h
      exact se_lst (soundEs as Γ xs h.2 X W F) (by unfold line; omega)
    · cases h
  | .dic nw as, Γ, x, h, X, W, F => by
    simp only [cE] at h
    split at h
    · rename_i ks vs hx
      obtain ⟨p, rfl⟩ := asDict_eq hx
      simp only [Bool.and_eq_true, decide_eq_true_eq] at h
      exact se_dic (soundEs as Γ _ h.2 X W F) h.1.1.1 h.1.1.2 h.1.2
    · cases h
  | .dict0, Γ, x, h, X, W, F => by
    simp only [cE] at h
    split at h
    · rename_i hx
      obtain ⟨p, rfl⟩ := asDict_eq hx
      exact se_dict0
    · cases h
  | .lc nw el t it ifs own, Γ, x, h, X, W, F => by
    simp only [cE] at h
    split at h
    · rename_i l tg i fs sc hx
      obtain ⟨p, rfl⟩ := asComp_eq hx
      simp only [Bool.and_eq_true] at h
      obtain ⟨⟨⟨⟨⟨⟨h1, h2⟩, h3⟩, h4⟩, h5⟩, h6⟩, h7⟩ := h
      exact se_lc F h1 h2 h3 h4 (soundIt it Γ tg i h5 X W F) (soundIf ifs (Γ.blk sc) fs h6) (soundE el (Γ.blk sc) l h7)
    · cases h
  | .lcd nw el t v ifs own, Γ, x, h, X, W, F => by
    simp only [cE] at h
    split at h
    · rename_i l tg i fs sc hx
      obtain ⟨p, rfl⟩ := asComp_eq hx
      split at h
      · rename_i y hy
        obtain ⟨p2, rfl⟩ := asName_eq hy
        simp only [Bool.and_eq_true] at h
        obtain ⟨⟨⟨⟨⟨h1, h2⟩, h3⟩, h4⟩, h6⟩, h7⟩ := h
        exact se_lcd F h1 h2 h3 h4 (soundIf ifs (Γ.blk sc) fs h6) (soundE el (Γ.blk sc) l h7)
      · cases h
    · cases h
  | .bi b nw as, Γ, x, h, X, W, F => by
    simp only [cE] at h
    split at h
    · rename_i f xs pos hx
      have := asCall_eq hx
      subst this
      split at h
      · rename_i y hf
        obtain ⟨p, rfl⟩ := asName_eq hf
        simp only [Bool.and_eq_true, decide_eq_true_eq] at h
        obtain ⟨⟨⟨⟨rfl, h1⟩, h2⟩, h3⟩, h4⟩ := h
        have as' := soundEs as Γ xs h4 X W F
        cases xs with
        | nil => cases h3
        | cons a xs => exact se_bi F h1 h2 as'
      · cases h
    · cases h
  | .isi a t, Γ, x, h, X, W, F => by
    simp only [cE] at h
    split at h
    · rename_i f y T pos hx
      have := asCall_eq hx
      subst this
      split at h
      · rename_i g z hf hT
        obtain ⟨p, rfl⟩ := asName_eq hf
        obtain ⟨p2, rfl⟩ := asName_eq hT
        simp only [Bool.and_eq_true, decide_eq_true_eq] at h
        obtain ⟨⟨⟨⟨⟨⟨⟨rfl, h1⟩, h2⟩, rfl⟩, h3⟩, h4⟩, h5⟩, h6⟩ := h
        exact se_isi F h1 h2 h3 h4 (soundE a Γ y h6 X W F).1 h5
      · cases h
    · cases h
  | .mt m o as, Γ, x, h, X, W, F => by
    simp only [cE] at h
    split at h
    · rename_i f xs pos hx
      have := asCall_eq hx
      subst this
      split at h
      · rename_i ob nm ap hf
        have := asAttr_eq hf
        subst this
        simp only [Bool.and_eq_true, decide_eq_true_eq] at h
        obtain ⟨⟨⟨⟨⟨rfl, h1⟩, h2⟩, h3⟩, h4⟩, h5⟩ := h
        exact mt_all F (soundE o Γ ob h3 X W F).1 (soundEs as Γ xs h5 X W F) h2 h1 h4
      · cases h
    · cases h
  | .idx a i, Γ, x, h, X, W, F => by
    simp only [cE] at h
    split at h
    · rename_i l r hx
      obtain ⟨p, rfl⟩ := asSub_eq hx
      simp only [Bool.and_eq_true] at h
      exact se_idx F (soundE a Γ l h.1.2 X W F).1 (soundE i Γ r h.2 X W F).1 h.1.1
    · cases h
  | .sl nw a lo hi, Γ, x, h, X, W, F => by
    simp only [cE] at h
    split at h
    · rename_i l r hx
      obtain ⟨p, rfl⟩ := asSub_eq hx
      split at h
      · rename_i u v hr
        obtain ⟨p2, rfl⟩ := asSlice_eq hr
        simp only [Bool.and_eq_true] at h
        exact se_sl (soundE a Γ l h.1.1 X W F).1 (soundO lo Γ u h.1.2 X W F) (soundO hi Γ v h.2 X W F)
      · cases h
    · cases h
  | .rev nw a, Γ, x, h, X, W, F => by
    simp only [cE] at h
    split at h
    · rename_i l r hx
      obtain ⟨p, rfl⟩ := asSub_eq hx
      rw [Bool.and_eq_true] at h
      obtain ⟨j, p1, p2, p3, rfl⟩ := isRev_eq h.1
      exact se_rev (soundE a Γ l h.2 X W F).1
    · cases h
  | .fs as, Γ, x, h, X, W, F => by
    simp only [cE] at h
    split at h
    · rename_i xs hx
      obtain ⟨p, rfl⟩ := asJoin_eq hx
      rw [Bool.and_eq_true] at h
      exact se_fs (soundEs as Γ xs h.2 X W F) (by rintro rfl; exact absurd h.1 (by decide))
    · cases h
  | .fv a, Γ, x, h, X, W, F => by
    simp only [cE] at h
    split at h
    · rename_i y hx
      obtain ⟨p, rfl⟩ := asFmt_eq hx
      exact se_fv (soundE a Γ y h X W F).1
    · cases h
  | .rng1 _, Γ, x, h, X, W, F => by simp only [cE] at h; cases h
  | .rng2 _ _, Γ, x, h, X, W, F => by simp only [cE] at h; cases h
  | .enum _, Γ, x, h, X, W, F => by simp only [cE] at h; cases h
  | .zip2 _ _, Γ, x, h, X, W, F => by simp only [cE] at h; cases h
  | .walk _, Γ, x, h, X, W, F => by simp only [cE] at h; cases h
theorem soundEs : ∀ (es : List E) (Γ : Gam) (xs : List Expr), cEs Φ Γ es xs = true → ∀ (X : Cx) (W : WX), Fit Γ Φ k W X → SEs X W Φ es xs
  | [], Γ, [], h, X, W, F => .nil
  | e :: es, Γ, x :: xs, h, X, W, F => by
    simp only [cEs, Bool.and_eq_true] at h
    exact .cons (soundE e Γ x h.1.1 X W F) h.1.2 (soundEs es Γ xs h.2 X W F)
  | [], Γ, _ :: _, h, X, W, F => by simp only [cEs] at h; cases h
  | _ :: _, Γ, [], h, X, W, F => by simp only [cEs] at h; cases h
theorem soundO : ∀ (e : Option E) (Γ : Gam) (x : Option Expr), cO Φ Γ e x = true → ∀ (X : Cx) (W : WX), Fit Γ Φ k W X → PO X x (LO X W Φ e)
  | none, Γ, none, h, X, W, F => so_none
  | some e, Γ, some x, h, X, W, F => by
    simp only [cO] at h
    exact so_some (soundE e Γ x h X W F).1
  | none, Γ, some _, h, X, W, F => by simp only [cO] at h; cases h
  | some _, Γ, none, h, X, W, F => by simp only [cO] at h; cases h
theorem soundIf : ∀ (e : Option E) (Γ : Gam) (x : List Expr), cIf Φ Γ e x = true → ∀ (X : Cx) (W : WX), Fit Γ Φ k W X → PTs X x (LF X W Φ e)
  | none, Γ, [], h, X, W, F => sf_none
  | some e, Γ, [x], h, X, W, F => by
    simp only [cIf] at h
    exact sf_some (soundE e Γ x h X W F).2
  | none, Γ, _ :: _, h, X, W, F => by simp only [cIf] at h; cases h
  | some _, Γ, [], h, X, W, F => by simp only [cIf] at h; cases h
  | some _, Γ, _ :: _ :: _, h, X, W, F => by simp only [cIf] at h; cases h
theorem soundIt : ∀ (e : E) (Γ : Gam) (tg x : Expr), cIt Φ Γ e tg x = true → ∀ (X : Cx) (W : WX), Fit Γ Φ k W X → PI X tg x (LI X W Φ e)
  | .rng1 a, Γ, tg, x, h, X, W, F => by
    simp only [cIt] at h
    split at h
    · rename_i f y pos hx
      have := asCall_eq hx
      subst this
      split at h
      · rename_i g hf
        obtain ⟨p, rfl⟩ := asName_eq hf
        simp only [Bool.and_eq_true, decide_eq_true_eq] at h
        obtain ⟨⟨⟨⟨rfl, h1⟩, h2⟩, h3⟩, h4⟩ := h
        exact si_rng1 F h1 h2 (soundE a Γ y h4 X W F).1 h3
      · cases h
    · cases h
  | .rng2 a b, Γ, tg, x, h, X, W, F => by
    simp only [cIt] at h
    split at h
    · rename_i f y z pos hx
      have := asCall_eq hx
      subst this
      split at h
      · rename_i g hf
        obtain ⟨p, rfl⟩ := asName_eq hf
        simp only [Bool.and_eq_true, decide_eq_true_eq] at h
        obtain ⟨⟨⟨⟨⟨⟨rfl, h1⟩, h2⟩, h3⟩, h4⟩, h5⟩, h6⟩ := h
        exact si_rng2 F h1 h2 (soundE a Γ y h5 X W F).1 (soundE b Γ z h6 X W F).1 h3 h4
      · cases h
    · cases h
  | .enum a, Γ, tg, x, h, X, W, F => by
    simp only [cIt] at h
    split at h
    · rename_i f y pos hx
      have := asCall_eq hx
      subst this
      split at h
      · rename_i g es hf ht
        obtain ⟨p, rfl⟩ := asName_eq hf
        obtain ⟨j, p2, rfl⟩ := asTup_eq ht
        simp only [Bool.and_eq_true, decide_eq_true_eq] at h
        obtain ⟨⟨⟨⟨rfl, h1⟩, h2⟩, h3⟩, h4⟩ := h
        exact si_enum F h1 h2 (soundE a Γ y h4 X W F).1 h3
      · cases h
    · cases h
  | .zip2 a b, Γ, tg, x, h, X, W, F => by
    simp only [cIt] at h
    split at h
    · rename_i f y z pos hx
      have := asCall_eq hx
      subst this
      split at h
      · rename_i g es hf ht
        obtain ⟨p, rfl⟩ := asName_eq hf
        obtain ⟨j, p2, rfl⟩ := asTup_eq ht
        simp only [Bool.and_eq_true, decide_eq_true_eq] at h
        obtain ⟨⟨⟨⟨⟨⟨rfl, h1⟩, h2⟩, h3⟩, h4⟩, h5⟩, h6⟩ := h
        exact si_zip F h1 h2 (soundE a Γ y h5 X W F).1 (soundE b Γ z h6 X W F).1 h3 h4
      · cases h
    · cases h
  | .walk e, Γ, tg, x, h, X, W, F => by
    simp only [cIt] at h
    exact si_walk (soundE e Γ x h X W F).1
  | .var _, Γ, tg, x, h, X, W, F => by simp only [cIt] at h; cases h
  | .lit _, Γ, tg, x, h, X, W, F => by simp only [cIt] at h; cases h
  | .glo _, Γ, tg, x, h, X, W, F => by simp only [cIt] at h; cases h
  | .call _ _, Γ, tg, x, h, X, W, F => by simp only [cIt] at h; cases h
  | .callk _ _, Γ, tg, x, h, X, W, F => by simp only [cIt] at h; cases h
  | .bin _ _ _ _, Γ, tg, x, h, X, W, F => by simp only [cIt] at h; cases h
  | .neg _, Γ, tg, x, h, X, W, F => by simp only [cIt] at h; cases h
  | .not_ _, Γ, tg, x, h, X, W, F => by simp only [cIt] at h; cases h
  | .and_ _, Γ, tg, x, h, X, W, F => by simp only [cIt] at h; cases h
  | .or_ _, Γ, tg, x, h, X, W, F => by simp only [cIt] at h; cases h
  | .ife _ _ _, Γ, tg, x, h, X, W, F => by simp only [cIt] at h; cases h
  | .cmp _ _ _, Γ, tg, x, h, X, W, F => by simp only [cIt] at h; cases h
  | .cmp2 _ _ _ _ _, Γ, tg, x, h, X, W, F => by simp only [cIt] at h; cases h
  | .tup _, Γ, tg, x, h, X, W, F => by simp only [cIt] at h; cases h
  | .lst _ _, Γ, tg, x, h, X, W, F => by simp only [cIt] at h; cases h
  | .dic _ _, Γ, tg, x, h, X, W, F => by simp only [cIt] at h; cases h
  | .dict0, Γ, tg, x, h, X, W, F => by simp only [cIt] at h; cases h
  | .lc _ _ _ _ _ _, Γ, tg, x, h, X, W, F => by simp only [cIt] at h; cases h
  | .lcd _ _ _ _ _ _, Γ, tg, x, h, X, W, F => by simp only [cIt] at h; cases h
  | .bi _ _ _, Γ, tg, x, h, X, W, F => by simp only [cIt] at h; cases h
  | .isi _ _, Γ, tg, x, h, X, W, F => by simp only [cIt] at h; cases h
  | .mt _ _ _, Γ, tg, x, h, X, W, F => by simp only [cIt] at h; cases h
  | .idx _ _, Γ, tg, x, h, X, W, F => by simp only [cIt] at h; cases h
  | .sl _ _ _ _, Γ, tg, x, h, X, W, F => by simp only [cIt] at h; cases h
  | .rev _ _, Γ, tg, x, h, X, W, F => by simp only [cIt] at h; cases h
  | .fs _, Γ, tg, x, h, X, W, F => by simp only [cIt] at h; cases h
  | .fv _, Γ, tg, x, h, X, W, F => by simp only [cIt] at h; cases h
end
end
end Cl

set_option linter.all false
set_option autoImplicit false
set_option maxRecDepth 100000
set_option maxHeartbeats 1000000
/-! Cl: statements. -/
namespace Cl
open PySem PySem.Spec PyProof.Rows L2

def PstS (K : Frag) (w : World) (mg : Str → Option Value) (W : WX) (A : Sit) (r : Res Ctl) (D : Ends) : Prop := match r with
  | .ok (.nx ρ) S1 => ∀ (σ : L2.St) (B : Sit), Ext A B → Rp K w B → B.S = S1 → EnvR K w B σ ρ → D.nx σ B.H
  | .ok (.bk ρ) S1 => ∀ (σ : L2.St) (B : Sit), Ext A B → Rp K w B → B.S = S1 → EnvR K w B σ ρ → D.bk σ B.H
  | .ok (.ct ρ) S1 => ∀ (σ : L2.St) (B : Sit), Ext A B → Rp K w B → B.S = S1 → EnvR K w B σ ρ → D.ct σ B.H
  | .ok (.rt d) S1 => ∀ (v : V) (B : Sit), Ext A B → Rp K w B → B.S = S1 → RV K w B v d → D.rt v B.H
  | .ok (.ex c fs ρ) S1 => ∀ (C dd : Addr) (B : Sit) (vs : List (Str × V)) (σ : L2.St), mg c = some (.ref C) → Ext A B → Rp K w B → B.S = S1 → EnvR K w B σ ρ → B.H dd = some (.xd vs) → RKV K w B vs fs → W (.ref C) (some dd) σ B.H
  | .exc _ _ _ => False
  | .stuck => False
section
variable {α β : Type} {K : Frag} {w : World} {mg : Str → Option Value} {W : WX} {A B : Sit} {D : Ends}
theorem psts_ext {r : Res Ctl} (x : Ext A B) (h : PstS K w mg W A r D) : PstS K w mg W B r D := by
  cases r with
  | ok c S1 =>
    cases c with
    | nx ρ => exact fun σ C y => h σ C (x.trans y)
    | bk ρ => exact fun σ C y => h σ C (x.trans y)
    | ct ρ => exact fun σ C y => h σ C (x.trans y)
    | rt d => exact fun v C y => h v C (x.trans y)
    | ex c fs ρ => exact fun C dd G vs σ m y => h C dd G vs σ m (x.trans y)
  | exc c fs S1 => exact h
  | stuck => exact h
theorem psts_st {r : Res α} {ρ : Env} {σ : L2.St} {k : α → Store → Res Ctl} {rel : Sit → β → α → Prop} {Q : β → Hp → Prop} (h : PstS K w mg W A (r.st ρ k) D) (en : EnvR K w A σ ρ)
    (f : ∀ (a : α) (v : β) (B : Sit), Ext A B → Rp K w B → rel B v a → r = .ok a B.S → PstS K w mg W B (k a B.S) D → Q v B.H) : Pst K w mg (WE W σ) A rel r Q := by
  cases r with
  | ok a S1 =>
    intro v B x R e q
    subst e
    exact f a v B x R q rfl (psts_ext x h)
  | exc c fs S1 => exact fun C dd G vs m x R e hd rk => h C dd G vs σ m x R e (en.ext x) hd rk
  | stuck => exact h
theorem psts_bind {r : Res Ctl} {k : Ctl → Store → Res Ctl} (h : PstS K w mg W A (r.bind k) D) : r = .stuck → False := fun e => by subst e; exact h
theorem psts_nx {ρ : Env} {σ : L2.St} (h : PstS K w mg W A (.ok (.nx ρ) A.S) D) (R : Rp K w A) (en : EnvR K w A σ ρ) : D.nx σ A.H := h σ A (.refl A) R rfl en
end

section
variable {X : Cx} {W : WX} {Φ : Tab} {Γ : Gam} {k : Nat}
def LSt (X : Cx) (W : WX) (f : Env → Store → Res Ctl) : TS := fun D σ H => ∃ (A : Sit) (ρ : Env), A.H = H ∧ Rp X.K X.w A ∧ EnvR X.K X.w A σ ρ ∧ PstS X.K X.w X.mg W A (f ρ A.S) D
abbrev LS (X : Cx) (W : WX) (Φ : Tab) (s : S) : TS := LSt X W (evS Φ s)
abbrev LSs (X : Cx) (W : WX) (Φ : Tab) (ss : List S) : TS := LSt X W (evSs Φ ss)
theorem lst_ {f : Env → Store → Res Ctl} {A : Sit} {ρ : Env} {σ : L2.St} {D : Ends} (R : Rp X.K X.w A) (en : EnvR X.K X.w A σ ρ) (h : PstS X.K X.w X.mg W A (f ρ A.S) D) : LSt X W f D σ A.H := ⟨A, ρ, rfl, R, en, h⟩

/-! ### a row of statements -/
theorem ss_nil : PSs X [] (LSs X W Φ []) := pss_mono pss_nil fun D σ H ⟨A, ρ, eH, R, en, q⟩ => by
  subst eH
  simp only [evSs] at q
  exact psts_nx q R en
theorem ss_cons {st : Stmt} {rest : List Stmt} {s : S} {ss : List S} (h : PS X st (LS X W Φ s)) (r : PSs X rest (LSs X W Φ ss)) : PSs X (st :: rest) (LSs X W Φ (s :: ss)) :=
  pss_mono (pss_cons h r) fun D σ H ⟨A, ρ, eH, R, en, q⟩ => by
    subst eH
    simp only [evSs] at q
    refine lst_ R en ?_
    cases hr : evS Φ s ρ A.S with
    | ok c S1 =>
      rw [hr, Res.bind_ok] at q
      cases c with
      | nx ρ1 =>
        intro σ1 B x R2 e en2
        subst e
        exact lst_ R2 en2 (psts_ext x q)
      | _ => exact q
    | exc c fs S1 => rw [hr] at q; exact q.elim
    | stuck => rw [hr] at q; exact q.elim

/-! ### simple statements -/
theorem ss_expr {x : Expr} {e : E} {p : Pos} (he : PE X x (LE X W Φ e)) (hn : noComp x = true) : PS X (.Expr x p) (LS X W Φ (.expr e)) := ps_mono (ps_expr he (noSwap hn)) fun D σ H ⟨A, ρ, eH, R, en, q⟩ => by
  subst eH
  simp only [evS] at q
  exact lf R en (psts_st q en fun d v B x R2 rv _ h1 => psts_nx h1 R2 (en.ext x))
theorem ss_ret {x : Expr} {e : E} {p : Pos} (he : PE X x (LE X W Φ e)) : PS X (.Return (some x) p) (LS X W Φ (.ret e)) := ps_mono (ps_ret he) fun D σ H ⟨A, ρ, eH, R, en, q⟩ => by
  subst eH
  simp only [evS] at q
  exact lf R en (psts_st q en fun d v B x R2 rv _ h1 => h1 v B (.refl B) R2 rfl rv)
theorem ss_retN {p : Pos} : PS X (.Return none p) (LS X W Φ .retN) := ps_mono ps_retN fun D σ H ⟨A, ρ, eH, R, en, q⟩ => by
  subst eH
  simp only [evS] at q
  exact q .non A (.refl A) R rfl .non
theorem ss_pass {p : Pos} : PS X (.Pass p) (LS X W Φ .pass) := ps_mono ps_pass fun D σ H ⟨A, ρ, eH, R, en, q⟩ => by
  subst eH
  simp only [evS] at q
  exact psts_nx q R en
theorem ss_brk {p : Pos} : PS X (.Break p) (LS X W Φ .brk) := ps_mono ps_break fun D σ H ⟨A, ρ, eH, R, en, q⟩ => by
  subst eH
  simp only [evS] at q
  exact q σ A (.refl A) R rfl en
theorem ss_cnt {p : Pos} : PS X (.Continue p) (LS X W Φ .cnt) := ps_mono ps_continue fun D σ H ⟨A, ρ, eH, R, en, q⟩ => by
  subst eH
  simp only [evS] at q
  exact q σ A (.refl A) R rfl en
theorem ss_never {st : Stmt} : PS X st (LS X W Φ .never) := ps_mono ps_never fun D σ H ⟨A, ρ, eH, R, en, q⟩ => by
  subst eH
  simp only [evS] at q
  exact q.elim
theorem ss_ite {c : Expr} {a b : List Stmt} {t : E} {sa sb : List S} {p : Pos} (hc : SE X W Φ t c) (ha : PSs X a (LSs X W Φ sa)) (hb : PSs X b (LSs X W Φ sb)) : PS X (.If c a b p) (LS X W Φ (.ite t sa sb)) :=
  ps_mono (ps_if hc.2 ha hb) fun D σ H ⟨A, ρ, eH, R, en, q⟩ => by
    subst eH
    simp only [evS] at q
    refine lt_ R en (psts_st (rel := rB) q en fun d v B x R2 e _ h1 => ?_)
    cases e
    cases d with
    | true => exact lst_ R2 (en.ext x) h1
    | false => exact lst_ R2 (en.ext x) h1
theorem ss_aug {op : Bop} {i : Nat} {y : Str} {x : Expr} {e : E} {p p2 : Pos} (F : Fit Γ Φ k W X) (hi : Γ.loc i y = true) (he : PE X x (LE X W Φ e)) : PS X (.AugAssign (.Name y p2) op.op x p) (LS X W Φ (.aug op i e)) := by
  obtain ⟨h1, h2, h3⟩ := loc_of F.sc F.fn hi
  refine ps_mono (ps_aug F.nd (by rw [F.N]; exact h1) h2 he (or_aug op) h3) fun D σ H ⟨A, ρ, eH, R, en, q⟩ => ?_
  subst eH
  simp only [evS] at q
  split at q
  · rename_i d e
    obtain ⟨v, h4, h5⟩ := en.2 i d e
    refine ⟨v, h4, lf R en (psts_st q en fun d2 u B x R2 ru _ h6 => ⟨B, d, d2, rfl, R2, h5.ext x, ru, go_of (psts_st h6 (en.ext x) fun d3 u3 C y R3 ru3 _ h7 => ?_)⟩)⟩
    exact psts_nx h7 R3 (((en.ext x).ext y).set ru3 i)
  · exact q.elim
theorem ss_sub {o i x : Expr} {eo ei e : E} {p p2 : Pos} (F : Fit Γ Φ k W X) (ho : PE X o (LE X W Φ eo)) (hi : PE X i (LE X W Φ ei)) (he : PE X x (LE X W Φ e)) (hn : noComp x = true) (hs : noSlice i = true) : PS X (.Assign [.Subscript o i p2] x p) (LS X W Φ (.sub eo ei e)) := by
  have hu : X.A.units + 65 < cLine := by have := F.room.un; omega
  refine ps_mono (ps_asg he (pg_sub ho hi (pr_set hu) (fun v => by cases i <;> first | rfl | cases hs)) (show swapsWith x (some (.Subscript o i p2)) p.line X.env = pure false from noSwap hn) (by cases x <;> rfl)) fun D σ H ⟨A, ρ, eH, R, en, q⟩ => ?_
  subst eH
  simp only [evS] at q
  refine lf R en (psts_st q en fun d v B x R2 rv _ h1 => lf R2 (en.ext x) (psts_st h1 (en.ext x) fun d2 u C y R3 ru _ h2 => lf R3 ((en.ext x).ext y) (psts_st h2 ((en.ext x).ext y) fun d3 t G z R4 rt _ h3 => ⟨G, d2, d3, d, rfl, R4, ru.ext z, rt, (rv.ext y).ext z, ?_⟩)))
  have en4 := ((en.ext x).ext y).ext z
  cases hr : setitem d2 d3 d G.S with
  | ok a S1 =>
    rw [hr] at h3
    exact fun G2 g R5 e => h3 σ G2 g R5 e (en4.ext g)
  | exc c fs S1 => trivial
  | stuck => rw [hr] at h3; exact h3.elim

/-! ### name = .. -/
def swB (sc : Scope) (y : Str) (p : Pos) (csc : Scope) (vp : Pos) : Bool := (sc.names.lookup y == some .local) && (p.line == vp.line) && !(csc.names.any fun (n, k) => n == y && (k == .local || k == .cell))
theorem sw_eq (F : Fit Γ Φ k W X) {l : Expr} {g : List Comprehension} {csc : Scope} {vp p : Pos} {y : Str} {ln : Nat} : swapsWith (.ListComp l g csc vp) (some (.Name y p)) ln X.env = pure (swB Γ.sc y p csc vp) := by
  have hk : X.env.blockKind = .function := by
    unfold PySem.Env.blockKind
    rw [F.sc, F.kd]
    rfl
  unfold swapsWith swB
  show pure (X.env.blockKind == .function && X.env.scope.names.lookup y == some .local && p.line == vp.line && _) = _
  rw [hk, F.sc]
  rfl
theorem ss_set {i : Nat} {y : Str} {x : Expr} {e : E} {p p2 : Pos} (F : Fit Γ Φ k W X) (hi : Γ.loc i y = true) (he : PE X x (LE X W Φ e)) (hs : swapsWith x (some (.Name y p2)) p.line X.env = pure false) : PS X (.Assign [.Name y p2] x p) (LS X W Φ (.asg (.nm i) e)) := by
  obtain ⟨h1, h2, h3⟩ := loc_of F.sc F.fn hi
  refine ps_mono (ps_set F.nd (by rw [F.N]; exact h1) h2 he hs h3) fun D σ H ⟨A, ρ, eH, R, en, q⟩ => ?_
  subst eH
  simp only [evS, asgT] at q
  exact lf R en (psts_st q en fun d v B x R2 rv _ h1 => psts_nx h1 R2 ((en.ext x).set rv i))
/-- what is asked behind the value, where a name is set to it -/
theorem set_rd {i : Nat} {e : E} {D : Ends} {σ : L2.St} {H : Hp} (q : LS X W Φ (.asg (.nm i) e) D σ H) : LE X W Φ e σ H (fun v H1 => D.nx (σ.set i (some v)) H1) := by
  obtain ⟨A, ρ, eH, R, en, q⟩ := q
  subst eH
  simp only [evS, asgT] at q
  exact lf R en (psts_st q en fun d v B x R2 rv _ h1 => psts_nx h1 R2 ((en.ext x).set rv i))
theorem swB_loc {sc csc : Scope} {y : Str} {p vp : Pos} (h : swB sc y p csc vp = true) : sc.names.lookup y = some .local := by
  unfold swB at h
  rw [Bool.and_eq_true, Bool.and_eq_true] at h
  have := h.1.1
  cases e : sc.names.lookup y with
  | none => rw [e] at this; cases this
  | some k => rw [e] at this; cases k <;> first | rfl | cases this
theorem ss_setLc {j : Nat} {y : Str} {nw : Bool} {el it : E} {t : Tg} {ifs : Option E} {own : List Nat} {l tg i : Expr} {fs : List Expr} {sc : Scope} {p p2 p3 : Pos} (F : Fit Γ Φ k W X) (hj : Γ.loc j y = true) (hw : swB Γ.sc y p2 sc p3 = true)
    (hb : blkC Γ.N Γ.sc sc (ownOf Γ own) = true) (ht : tgIn own t = true) (hT : cT (Γ.blk sc) t tg = true) (hs : noSet i = true)
    (hi : PI X tg i (LI X W Φ it)) (hf : ∀ X' W', Fit (Γ.blk sc) Φ k W' X' → PTs X' fs (LF X' W' Φ ifs)) (he : ∀ X' W', Fit (Γ.blk sc) Φ k W' X' → SE X' W' Φ el l) :
    PS X (.Assign [.Name y p2] (.ListComp l [⟨tg, i, fs, 0⟩] sc p3) p) (LS X W Φ (.asg (.nm j) (.lc nw el t it ifs own))) := by
  obtain ⟨ok, h1, h2, h3⟩ := lc_parts F hb hT hf he
  obtain ⟨g1, g2, g3⟩ := loc_of F.sc F.fn hj
  refine ps_mono (ps_setLc F.calm F.nd (by rw [F.N]; exact g1) (by rw [F.sc]; exact swB_loc hw) (by rw [sw_eq F, hw]) hi ok h1 h2 h3 (noFold hs)) fun D σ H q => ?_
  rw [ownOf_snd]
  exact lc_read ht (set_rd q)
theorem ss_setLcd {j v : Nat} {y z : Str} {nw : Bool} {el : E} {t : Tg} {ifs : Option E} {own : List Nat} {l tg : Expr} {fs : List Expr} {sc : Scope} {p p2 p3 p4 : Pos} (F : Fit Γ Φ k W X) (hj : Γ.loc j y = true) (hw : swB Γ.sc y p2 sc p3 = true)
    (hb : blkC Γ.N Γ.sc sc (ownOf Γ own) = true) (ht : tgIn own t = true) (hT : cT (Γ.blk sc) t tg = true) (hv : Γ.vis v z = true)
    (hf : ∀ X' W', Fit (Γ.blk sc) Φ k W' X' → PTs X' fs (LF X' W' Φ ifs)) (he : ∀ X' W', Fit (Γ.blk sc) Φ k W' X' → SE X' W' Φ el l) :
    PS X (.Assign [.Name y p2] (.ListComp l [⟨tg, .Name z p4, fs, 0⟩] sc p3) p) (LS X W Φ (.asg (.nm j) (.lcd nw el t v ifs own))) := by
  obtain ⟨ok, h1, h2, h3⟩ := lc_parts F hb hT hf he
  obtain ⟨g1, g2, g3⟩ := loc_of F.sc F.fn hj
  have hv' := hv
  unfold Gam.vis at hv'
  rw [Bool.and_eq_true, Bool.and_eq_true, decide_eq_true_eq] at hv'
  have hvis : Vis X.env.scope z := by
    have h2 := hv'.1.2
    unfold visB at h2
    unfold Vis
    rw [F.sc]
    split at h2
    · exact .inl (by assumption)
    · exact .inr (.inl (by assumption))
    · exact .inr (.inr (by assumption))
    · cases h2
  have pv : PE X (.Name z p4) (tVar v) := pe_var (by rw [F.N]; exact hv'.1.1) hvis (nm_d hv'.2) (nm_c hv'.2)
  refine ps_mono (ps_lock (ps_setLc F.calm F.nd (by rw [F.N]; exact g1) (by rw [F.sc]; exact swB_loc hw) (by rw [sw_eq F, hw]) (pi_bd (pi_keys pv)) ok h1 h2 h3 (noFold rfl))) fun D σ H q => ?_
  rw [ownOf_snd]
  exact lcd_read ht (set_rd q)

/-! ### (a, b, ..) = .. -/
/-- 0: the stores go from the left; 1: plain names on one line, stored from the right; 2: not covered -/
def swK (sc : Scope) (ts vs : List Expr) : Nat :=
  if !(ts.length == 2 || ts.length == 3) || vs.length != ts.length then 0
  else if vs.any (fun | .Starred .. => true | _ => false) then 0
  else
    let line := (ts.head?.map (·.pos.line)).getD 0
    let names := ts.filterMap fun
      | .Name id pos => if sc.names.lookup id == some .local && pos.line == line then some id else none
      | _ => none
    if names.length != ts.length || names.eraseDups.length != names.length then 0
    else if vs.all (foldedForSure 8) then 0
    else if vs.all (constantsAlone 8) then 2
    else 1
theorem sw_none {x : Expr} {tg : Expr} {env : PySem.Env} (h : asTup x = none) : swappedStores [tg] x env = pure none := by
  cases x <;> first | (cases tg <;> rfl) | cases h
theorem sw_zero (F : Fit Γ Φ k W X) {ts vs : List Expr} {j1 j2 : Nat} {p1 p2 : Pos} (h : swK Γ.sc ts vs = 0) : swappedStores [.Tuple ts j1 p1] (.Tuple vs j2 p2) X.env = pure none := by
  have hk : X.env.blockKind = .function := by
    unfold PySem.Env.blockKind
    rw [F.sc, F.kd]
    rfl
  unfold swK at h
  unfold swappedStores
  simp only [PySem.Env.kindOf, hk, F.sc, pure_bind]
  split at h
  · rename_i c
    exact if_pos (by simpa using c)
  · rename_i c
    refine (if_neg (by simpa using c)).trans ?_
    split at h
    · rename_i c2
      exact if_pos c2
    · rename_i c2
      refine (if_neg c2).trans ?_
      dsimp only at h
      split at h
      · rename_i c3
        exact if_pos c3
      · rename_i c3
        refine (if_neg c3).trans ?_
        split at h
        · rename_i c4
          exact if_pos c4
        · split at h <;> cases h
end
end Cl

set_option linter.all false
set_option autoImplicit false
set_option maxRecDepth 100000
set_option maxHeartbeats 1000000
/-! Cl: statements, second part: several targets, loops; the check of statements is sound. -/
namespace Cl
open PySem PySem.Spec PyProof.Rows L2

section
variable {X : Cx} {W : WX} {Φ : Tab} {Γ : Gam} {k : Nat}
def swNames (sc : Scope) (ts : List Expr) : List Str := ts.filterMap fun
  | .Name id pos => if sc.names.lookup id == some .local && pos.line == (ts.head?.map (·.pos.line)).getD 0 then some id else none
  | _ => none
theorem sw_one (F : Fit Γ Φ k W X) {ts vs : List Expr} {j1 j2 : Nat} {p1 p2 : Pos} (h : swK Γ.sc ts vs = 1) : swappedStores [.Tuple ts j1 p1] (.Tuple vs j2 p2) X.env = pure (some (swNames Γ.sc ts)) ∧ (swNames Γ.sc ts).length = ts.length ∧ vs.length = ts.length := by
  have hk : X.env.blockKind = .function := by
    unfold PySem.Env.blockKind
    rw [F.sc, F.kd]
    rfl
  unfold swK at h
  unfold swappedStores
  simp only [PySem.Env.kindOf, hk, F.sc, pure_bind]
  split at h
  · cases h
  · rename_i c
    have hv : vs.length = ts.length := by
      simp only [Bool.or_eq_true, not_or, bne_iff_ne, ne_eq, Decidable.not_not] at c
      exact c.2
    split at h
    · cases h
    · rename_i c2
      dsimp only at h
      split at h
      · cases h
      · rename_i c3
        split at h
        · cases h
        · rename_i c4
          split at h
          · cases h
          · rename_i c5
            have hl : (swNames Γ.sc ts).length = ts.length := by
              have c3' := c3
              simp only [Bool.or_eq_true, not_or, bne_iff_ne, ne_eq, Decidable.not_not] at c3'
              exact c3'.1
            refine ⟨?_, hl, hv⟩
            refine (if_neg (by simpa using c)).trans ?_
            refine (if_neg c2).trans ?_
            refine (if_neg c3).trans ?_
            refine (if_neg c4).trans ?_
            exact if_neg c5
theorem lookB {sc : Scope} {y : Str} (h : (sc.names.lookup y == some NameKind.local) = true) : sc.names.lookup y = some .local := by
  cases e : sc.names.lookup y with
  | none => rw [e] at h; cases h
  | some k => rw [e] at h; cases k <;> first | rfl | cases h
/-- one name of the row: it is taken, or the row is shorter -/
def swOne (sc : Scope) (l : Nat) : Expr → Option Str
  | .Name id pos => if sc.names.lookup id == some .local && pos.line == l then some id else none
  | _ => none
theorem swNames_eq (sc : Scope) (ts : List Expr) : swNames sc ts = ts.filterMap (swOne sc ((ts.head?.map (·.pos.line)).getD 0)) := by
  unfold swNames
  congr 1
theorem fm_full {α β : Type} {f : α → Option β} : ∀ {l : List α}, (l.filterMap f).length = l.length → ∀ x ∈ l, (f x).isSome = true
  | [], _, _, m => nomatch m
  | a :: l, h, x, m => by
    rw [List.filterMap_cons] at h
    cases e : f a with
    | none =>
      rw [e] at h
      have := List.length_filterMap_le f l
      simp only [List.length_cons] at h
      omega
    | some b =>
      rw [e] at h
      simp only [List.length_cons] at h
      rcases List.mem_cons.mp m with rfl | m
      · rw [e]; rfl
      · exact fm_full (by omega) x m
theorem swOne_loc {sc : Scope} {l : Nat} {y : Str} {p : Pos} (h : (swOne sc l (.Name y p)).isSome = true) : sc.names.lookup y = some .local ∧ swOne sc l (.Name y p) = some y := by
  by_cases c : (sc.names.lookup y == some .local && p.line == l) = true
  · refine ⟨lookB (by rw [Bool.and_eq_true] at c; exact c.1), ?_⟩
    show (if (sc.names.lookup y == some .local && p.line == l) = true then some y else none) = some y
    rw [if_pos c]
  · have h : (if (sc.names.lookup y == some .local && p.line == l) = true then some y else none).isSome = true := h
    rw [if_neg c] at h
    cases h
theorem st_bind {α β : Type} {r : Res α} {f : α → β} {ρ : Env} {k : β → Store → Res Ctl} : (r.bind fun a S => .ok (f a) S).st ρ k = r.st ρ fun a S => k (f a) S := by cases r <;> rfl
theorem ss_par2 {i j : Nat} {y z : Str} {a b : Expr} {ea eb : E} {j1 j2 : Nat} {p p1 p2 px py : Pos} (F : Fit Γ Φ k W X) (hi : Γ.loc i y = true) (hj : Γ.loc j z = true) (hij : i ≠ j) (h : swK Γ.sc [.Name y px, .Name z py] [a, b] = 1) (ha : SEs X W Φ [ea, eb] [a, b]) :
    PS X (.Assign [.Tuple [.Name y px, .Name z py] j1 p1] (.Tuple [a, b] j2 p2) p) (LS X W Φ (.asg (.tp [.nm i, .nm j]) (.tup [ea, eb]))) := by
  obtain ⟨h1, h2, h3⟩ := sw_one F (j1 := j1) (j2 := j2) (p1 := p1) (p2 := p2) h
  rw [swNames_eq] at h1 h2
  have fl := fm_full h2
  obtain ⟨ly, ey⟩ := swOne_loc (fl (.Name y px) (by simp))
  obtain ⟨lz, ez⟩ := swOne_loc (fl (.Name z py) (by simp))
  rw [List.filterMap_cons, ey, List.filterMap_cons, ez, List.filterMap_nil] at h1
  refine ps_mono (ps_par F.calm F.nd (by rw [F.N]; exact (loc_of F.sc F.fn hi).1) (by rw [F.N]; exact (loc_of F.sc F.fn hj).1) hij (by rw [F.sc]; exact ly) (by rw [F.sc]; exact lz) ha.pa h1) fun D σ H ⟨A, ρ, eH, R, en, q⟩ => ?_
  subst eH
  simp only [evS, evE] at q
  rw [st_bind] at q
  refine lf R en (psts_st q en fun ds vs B x R2 rs _ h4 => ?_)
  match ds, rs, h4 with
  | [d1, d2], .cons r1 (.cons r2 .nil), h4 =>
    simp only [asgT, asgTs, Option.bind_some] at h4
    exact ⟨_, _, rfl, psts_nx h4 R2 (((en.ext x).set r1 i).set r2 j)⟩
  | [], _, h4 => simp only [asgT, asgTs] at h4; exact h4.elim
  | [_], _, h4 => simp only [asgT, asgTs, Option.bind_some] at h4; exact h4.elim
  | _ :: _ :: _ :: _, _, h4 => simp only [asgT, asgTs, Option.bind_some] at h4; exact h4.elim
theorem ss_par3 {i j l : Nat} {y z u : Str} {a b c : Expr} {ea eb ec : E} {j1 j2 : Nat} {p p1 p2 px py pz : Pos} (F : Fit Γ Φ k W X) (hi : Γ.loc i y = true) (hj : Γ.loc j z = true) (hl : Γ.loc l u = true) (hij : i ≠ j) (hil : i ≠ l) (hjl : j ≠ l)
    (h : swK Γ.sc [.Name y px, .Name z py, .Name u pz] [a, b, c] = 1) (ha : SEs X W Φ [ea, eb, ec] [a, b, c]) :
    PS X (.Assign [.Tuple [.Name y px, .Name z py, .Name u pz] j1 p1] (.Tuple [a, b, c] j2 p2) p) (LS X W Φ (.asg (.tp [.nm i, .nm j, .nm l]) (.tup [ea, eb, ec]))) := by
  obtain ⟨h1, h2, h3⟩ := sw_one F (j1 := j1) (j2 := j2) (p1 := p1) (p2 := p2) h
  rw [swNames_eq] at h1 h2
  have fl := fm_full h2
  obtain ⟨ly, ey⟩ := swOne_loc (fl (.Name y px) (by simp))
  obtain ⟨lz, ez⟩ := swOne_loc (fl (.Name z py) (by simp))
  obtain ⟨lu, eu⟩ := swOne_loc (fl (.Name u pz) (by simp))
  rw [List.filterMap_cons, ey, List.filterMap_cons, ez, List.filterMap_cons, eu, List.filterMap_nil] at h1
  refine ps_mono (ps_par3 F.calm F.nd (by rw [F.N]; exact (loc_of F.sc F.fn hi).1) (by rw [F.N]; exact (loc_of F.sc F.fn hj).1) (by rw [F.N]; exact (loc_of F.sc F.fn hl).1) hij hil hjl (by rw [F.sc]; exact ly) (by rw [F.sc]; exact lz) (by rw [F.sc]; exact lu) ha.pa h1) fun D σ H ⟨A, ρ, eH, R, en, q⟩ => ?_
  subst eH
  simp only [evS, evE] at q
  rw [st_bind] at q
  refine lf R en (psts_st q en fun ds vs B x R2 rs _ h4 => ?_)
  match ds, rs, h4 with
  | [d1, d2, d3], .cons r1 (.cons r2 (.cons r3 .nil)), h4 =>
    simp only [asgT, asgTs, Option.bind_some] at h4
    exact ⟨_, _, _, rfl, psts_nx h4 R2 ((((en.ext x).set r1 i).set r2 j).set r3 l)⟩
  | [], _, h4 => simp only [asgT, asgTs] at h4; exact h4.elim
  | [_], _, h4 => simp only [asgT, asgTs, Option.bind_some] at h4; exact h4.elim
  | [_, _], _, h4 => simp only [asgT, asgTs, Option.bind_some] at h4; exact h4.elim
  | _ :: _ :: _ :: _ :: _, _, h4 => simp only [asgT, asgTs, Option.bind_some] at h4; exact h4.elim
theorem ss_asgT {ts : List Tg} {tgs : List Expr} {x : Expr} {e : E} {j : Nat} {p p2 : Pos} (F : Fit Γ Φ k W X) (hT : cTs Γ ts tgs = true) (he : PE X x (LE X W Φ e)) (hn : noComp x = true) (hw : swappedStores [.Tuple tgs j p2] x X.env = pure none) :
    PS X (.Assign [.Tuple tgs j p2] x p) (LS X W Φ (.asg (.tp ts) e)) := by
  have hg : PG X (.Tuple tgs j p2) (LG X.K X.w (.tp ts)) := sg F.N F.nd F.sc F.fn F.calm (.tp ts) _ (by simpa only [cT, asTup] using hT)
  refine ps_mono (ps_asg he hg (show swapsWith x (some (.Tuple tgs j p2)) p.line X.env = pure false from noSwap hn) hw) fun D σ H ⟨A, ρ, eH, R, en, q⟩ => ?_
  subst eH
  simp only [evS] at q
  refine lf R en (psts_st q en fun d v B x R2 rv _ h1 => ?_)
  cases ha : asgT (.tp ts) d ρ with
  | none => simp only [ha] at h1; exact h1.elim
  | some ρ2 =>
    simp only [ha] at h1
    exact ⟨B, d, ρ, ρ2, rfl, en.ext x, rv, ha, fun σ' en' _ => psts_nx h1 R2 en'⟩

/-! ### loops -/
theorem for_main {σ : L2.St} {B B0 : Sit} {J : It} {jt : Itr} {ρ : Env} {t : Tg} {g : Env → Store → Res Ctl} {D D0 : Ends} {kk : Ctl → Store → Res Ctl}
    (R : Rp X.K X.w B) (en : EnvR X.K X.w B σ ρ) (io : ItOk X.K X.w B J jt)
    (h : PstS X.K X.w X.mg W B0 ((forL jt (fun d ρ1 S2 => match asgT t d ρ1 with | none => .stuck | some ρ2 => g ρ2 S2) jt.items ρ B.S).bind kk) D0)
    (hd : ∀ (C : Sit) (c : Ctl), Ext B C → Rp X.K X.w C → PstS X.K X.w X.mg W B0 (kk c C.S) D0 → PstS X.K X.w X.mg W C (.ok c C.S) D) :
    ∃ Wm : Nat → Nat → L2.St → Hp → Prop, (∃ m, Wm 0 m σ B.H) ∧ ∀ i m σ H, Wm i m σ H → (J.stop i H ∧ D.nx σ H) ∨ (J.go i H ∧ ∃ N : L2.St → Hp → Prop, (∀ σ' H', N σ' H' → ∃ m', m' < m ∧ Wm (i + 1) m' σ' H') ∧
      ∀ x H', J.yld i H x H' → LG X.K X.w t x σ H' fun σ2 H2 => LSt X W g { D with nx := N, ct := N, bk := D.nx } σ2 H2) := by
  obtain ⟨G, Y, wk, wg, wy⟩ := io.walk
  have hst : ∀ {C : Sit} {ds : List Cl.D} {ρ : Env} {f : Cl.D → Env → Store → Res Ctl}, PstS X.K X.w X.mg W B0 ((forL jt f ds ρ C.S).bind kk) D0 → jt.st C.S := fun {C ds ρ f} h => by
    by_cases hs : jt.st C.S
    · exact hs
    · cases ds <;> (rw [forL, if_neg hs] at h; exact h.elim)
  refine for_it wk (fun i σ H => ∃ (C : Sit) (ρ : Env), C.H = H ∧ Ext B C ∧ Rp X.K X.w C ∧ EnvR X.K X.w C σ ρ ∧
    PstS X.K X.w X.mg W B0 ((forL jt (fun d ρ1 S2 => match asgT t d ρ1 with | none => .stuck | some ρ2 => g ρ2 S2) (jt.items.drop i) ρ C.S).bind kk) D0) ?_ ?_ ?_ ?_
  · exact ⟨B, ρ, rfl, .refl B, R, en, h⟩
  · rintro i σ H hi ⟨C, ρ, rfl, x, RC, en, hp⟩
    exact wg C x RC (hst hp)
  · rintro i x σ H H' hi ⟨C, ρ, rfl, xC, RC, en, hp⟩ y
    have st := hst hp
    obtain ⟨d, hdi⟩ : ∃ d, jt.items[i]? = some d := ⟨jt.items[i], by simp [hi]⟩
    have edrop : jt.items.drop i = d :: jt.items.drop (i + 1) := by
      have e := (List.getElem?_eq_some_iff.mp hdi).2
      rw [List.drop_eq_getElem_cons hi, e]
    obtain ⟨C1, e1, x1, R1, s1, rv⟩ := wy C i d x H' xC RC st hdi y
    subst e1
    rw [edrop, forL, if_pos st, bind_assoc] at hp
    cases ha : asgT t d ρ with
    | none =>
      simp only [ha] at hp
      exact hp.elim
    | some ρ2 =>
      simp only [ha] at hp
      rw [← s1] at hp
      refine ⟨C1, d, ρ, ρ2, rfl, en.ext x1, rv, ha, fun σ2 en2 _ => lst_ R1 en2 ?_⟩
      have xB := xC.trans x1
      cases hr : g ρ2 C1.S with
      | ok c S1 =>
        rw [hr, Res.bind_ok] at hp
        cases c with
        | nx ρ3 =>
          intro σ3 C2 x2 R2 e en3
          subst e
          exact ⟨C2, ρ3, rfl, xB.trans x2, R2, en3, hp⟩
        | ct ρ3 =>
          intro σ3 C2 x2 R2 e en3
          subst e
          exact ⟨C2, ρ3, rfl, xB.trans x2, R2, en3, hp⟩
        | bk ρ3 =>
          intro σ3 C2 x2 R2 e en3
          subst e
          exact psts_nx (hd C2 (.nx ρ3) (xB.trans x2) R2 hp) R2 en3
        | rt d3 =>
          intro v C2 x2 R2 e rv
          subst e
          exact hd C2 (.rt d3) (xB.trans x2) R2 hp v C2 (.refl C2) R2 rfl rv
        | ex c fs ρ3 =>
          intro Ca dd C2 vs σ3 m x2 R2 e en3 hdd rk
          subst e
          exact hd C2 (.ex c fs ρ3) (xB.trans x2) R2 hp Ca dd C2 vs σ3 m (.refl C2) R2 rfl en3 hdd rk
      | exc c fs S1 => rw [hr] at hp; exact hp.elim
      | stuck => rw [hr] at hp; exact hp.elim
  · rintro σ H ⟨C, ρ, rfl, xC, RC, en, hp⟩
    have st := hst hp
    rw [List.drop_eq_nil_of_le (Nat.le_refl _), forL, if_pos st, Res.bind_ok] at hp
    exact psts_nx (hd C (.nx ρ) xC RC hp) RC en
theorem bind_id {r : Res Ctl} : (r.bind fun c S => .ok c S) = r := by cases r <;> rfl
theorem ss_for {tg it : Expr} {body : List Stmt} {t : Tg} {e : E} {ss : List S} {p : Pos} (F : Fit Γ Φ k W X) (hp : PassesOwn (model X.prog X.w) X.A X.env X.xe) (hT : cT Γ t tg = true) (hi : PI X tg it (LI X W Φ e)) (hb : PSs X body (LSs X W Φ ss)) (hs : noSet it = true) :
    PS X (.For tg it body [] p) (LS X W Φ (.for_ t e ss)) :=
  ps_mono (ps_for hp F.calm hi (sg F.N F.nd F.sc F.fn F.calm t tg hT) hb (noFold hs)) fun D σ H ⟨A, ρ, eH, R, en, q⟩ => by
    subst eH
    simp only [evS] at q
    refine lf R en (psts_st (rel := fun B (J : It) (jt : Itr) => ItOk X.K X.w B J jt) q en fun jt J B x R2 io _ h1 bd => ?_)
    rw [← bind_id (r := forL jt _ jt.items ρ B.S)] at h1
    exact for_main R2 (en.ext x) io h1 fun C c xC RC h2 => psts_ext xC h2
end
end Cl

set_option linter.all false
set_option autoImplicit false
set_option maxRecDepth 100000
set_option maxHeartbeats 1000000
/-! Cl: loops over dicts, while; the check of statements is sound. -/
namespace Cl
open PySem PySem.Spec PyProof.Rows L2

theorem EnvR.extR {K : Frag} {w : World} {A B : Sit} {σ : L2.St} {ρ : Env} (x : ExtR A B) (h : EnvR K w A σ ρ) : EnvR K w B σ ρ :=
  ⟨h.1, fun i d e => let ⟨v, h1, h2⟩ := h.2 i d e; ⟨v, h1, h2.extR x⟩⟩
theorem extR_unl {B : Sit} {o : HO} {n : Nat} {a : Addr} {c cn : Cell} (hi : B.m[n]? = some a) (hc : B.S[n]? = some c) (hd : c ≠ .dead) (nt : ∀ xs, B.H a ≠ some (.tup xs)) : ExtR B (B.put n a o cn) := by
  refine ⟨⟨[], by simp [Sit.put]⟩, fun b v h q => ?_, fun b xs h => (upd_ne fun e => nt xs (by rw [← e]; exact h)).trans h⟩
  have hb : b ≠ a := fun e => by
    subst e
    exact hd (q.2 n c hi hc)
  refine ⟨(upd_ne hb).trans h, q.1, fun j cj hj hcj => ?_⟩
  rcases set_get hcj with ⟨e, _⟩ | ⟨_, h2⟩
  · subst e
    have hj' : B.m[j]? = some b := hj
    rw [hi] at hj'
    exact absurd (Option.some.inj hj').symm hb
  · exact q.2 j cj hj h2
section
variable {X : Cx} {W : WX} {Φ : Tab} {Γ : Gam} {k : Nat}
theorem ford_read {t : Tg} {i : Nat} {ss : List S} {D : Ends} {σ : L2.St} {H : Hp} (q : LS X W Φ (.ford t i ss) D σ H) :
    tLock (tFor (fun σ H R => iKeys (tVar i) σ H fun J H1 => Bd X.K H1 → R J H1) (LG X.K X.w t) (LSs X W Φ ss)) D σ H := by
  obtain ⟨A, ρ, eH, R, en, q⟩ := q
  subst eH
  simp only [evS] at q
  split at q
  · rename_i n hρ
    split at q
    · rename_i c hc
      split at q
      · rename_i ks c' hk
        obtain ⟨v, hv, rv⟩ := en.2 i _ hρ
        cases rv with
        | @ref a _ hn =>
          have hf : c.free = true := by
            cases c with
            | dK kvs l => cases l <;> first | rfl | (simp only [dkeys] at hk; cases hk)
            | dT kvs l => cases l <;> first | rfl | (simp only [dkeys] at hk; cases hk)
            | _ => simp only [dkeys] at hk; cases hk
          have hn' : c' ≠ .dead := by
            cases c with
            | dK kvs l => cases l <;> simp only [dkeys] at hk <;> cases hk; exact (fun z => nomatch z)
            | dT kvs l => cases l <;> simp only [dkeys] at hk <;> cases hk; exact (fun z => nomatch z)
            | _ => simp only [dkeys] at hk; cases hk
          have ok := R.cell n a c hn hc
          have core : ∀ (u : HO) (J : Obj → It), A.H a = some u → (∀ ob, CellOk X.K X.w (A.put n a (.frz ob u) c') a c') → (∀ ob (C : Sit), Ext (A.put n a (.frz ob u) c') C → Rp X.K X.w C → CellOk X.K X.w (C.put n a u c) a c) →
              (∀ ob, ItOk X.K X.w (A.put n a (.frz ob u) c') (J ob) ⟨ks, some (n, c')⟩) → (∀ ob (R' : It → Hp → Prop), R' (J ob) (upd A.H a (.frz ob u)) → iKeys (tVar i) σ (upd A.H a (.frz ob u)) R') → Mut (some u) →
              tLock (tFor (fun σ H R => iKeys (tVar i) σ H fun J H1 => Bd X.K H1 → R J H1) (LG X.K X.w t) (LSs X W Φ ss)) D σ A.H := fun u J hu ok1 ok2 io ik mu => by
            refine ⟨a, u, hu, mu, fun ob => ?_⟩
            unfold tFor
            refine ik ob _ ?_
            intro bd
            have x1 : Ext A (A.put n a (.frz ob u) c') := ext_put R hn hc hf
            have R1 : Rp X.K X.w (A.put n a (.frz ob u) c') := rp_put R hn hc hf (ok1 ob)
            refine for_main (B := A.put n a (.frz ob u) c') (B0 := A) R1 (en.ext x1) (io ob) q fun C r xC RC h2 => ?_
            have fr : ∀ {C2 : Sit}, Ext C C2 → C2.H a = some (.frz ob u) := fun x2 => (xC.trans x2).frzs a ob u upd_same
            have mm : ∀ {C2 : Sit}, Ext C C2 → C2.m[n]? = some a := fun x2 => (xC.trans x2).ix (show (A.put n a (.frz ob u) c').m[n]? = some a from hn)
            -- unlocked
            have un : ∀ {C2 : Sit} (x2 : Ext C C2) (R2 : Rp X.K X.w C2), C2.S[n]? = some c' → Ext A (C2.put n a u c) ∧ Rp X.K X.w (C2.put n a u c) ∧ ExtR C2 (C2.put n a u c) := fun {C2} x2 R2 hs =>
              have nt : ∀ xs, C2.H a ≠ some (.tup xs) := by rw [fr x2]; exact fun xs z => nomatch z
              ⟨ext_unl R hn hc hf (x1.trans (xC.trans x2)), rp_unl R2 (mm x2) hs hn' nt (ok2 ob C2 (xC.trans x2) R2), extR_unl (mm x2) hs hn' nt⟩
            cases r with
            | ex c0 fs ρ3 => exact h2.elim
            | nx ρ3 =>
              simp only [unlk] at h2
              split at h2
              · rename_i hs
                intro σ2 C2 x2 R2 e en2
                obtain ⟨y1, y2, y3⟩ := un x2 R2 (by rw [e]; exact hs)
                exact ⟨fr x2, h2 σ2 _ y1 y2 (by show C2.S.set n c = _; rw [e]) (en2.extR y3)⟩
              · exact h2.elim
            | bk ρ3 =>
              simp only [unlk] at h2
              split at h2
              · rename_i hs
                intro σ2 C2 x2 R2 e en2
                obtain ⟨y1, y2, y3⟩ := un x2 R2 (by rw [e]; exact hs)
                exact ⟨fr x2, h2 σ2 _ y1 y2 (by show C2.S.set n c = _; rw [e]) (en2.extR y3)⟩
              · exact h2.elim
            | ct ρ3 =>
              simp only [unlk] at h2
              split at h2
              · rename_i hs
                intro σ2 C2 x2 R2 e en2
                obtain ⟨y1, y2, y3⟩ := un x2 R2 (by rw [e]; exact hs)
                exact ⟨fr x2, h2 σ2 _ y1 y2 (by show C2.S.set n c = _; rw [e]) (en2.extR y3)⟩
              · exact h2.elim
            | rt d3 =>
              simp only [unlk] at h2
              split at h2
              · rename_i hs
                intro v2 C2 x2 R2 e rv2
                obtain ⟨y1, y2, y3⟩ := un x2 R2 (by rw [e]; exact hs)
                exact ⟨fr x2, h2 v2 _ y1 y2 (by show C2.S.set n c = _; rw [e]) (rv2.extR y3)⟩
              · exact h2.elim
          cases c with
          | dK kvs l =>
            cases l with
            | true => simp only [dkeys] at hk; cases hk
            | false =>
              simp only [dkeys] at hk
              cases hk
              obtain ⟨kv, hu, rk, okk⟩ := ok
              have hu : A.H a = some (.dK kv) := hu
              refine core (.dK kv) (fun ob => Itk a ob kv) hu (fun ob => ⟨kv, ⟨ob, upd_same⟩, rk.ext (ext_put R hn hc hf), okk⟩) (fun ob C xC RC => ⟨kv, upd_same, rk.ext (ext_unl R hn hc hf ((ext_put R hn hc hf).trans xC)), okk⟩) (fun ob => ?_) (fun ob R' h => ⟨.ref a, hv, a, ob, rfl, .inl ⟨kv, upd_same, h⟩⟩) trivial
              exact itok_keys upd_same (rk.ext (ext_put R hn hc hf)) okk
          | dT kvs l =>
            cases l with
            | true => simp only [dkeys] at hk; cases hk
            | false =>
              simp only [dkeys] at hk
              cases hk
              obtain ⟨kv, hu, rk, okk⟩ := ok
              have hu : A.H a = some (.dT kv) := hu
              refine core (.dT kv) (fun ob => Itkt a ob kv) hu (fun ob => ⟨kv, ⟨ob, upd_same⟩, rk.ext (ext_put R hn hc hf), okk⟩) (fun ob C xC RC => ⟨kv, upd_same, rk.ext (ext_unl R hn hc hf ((ext_put R hn hc hf).trans xC)), okk⟩) (fun ob => ?_) (fun ob R' h => ⟨.ref a, hv, a, ob, rfl, .inr ⟨kv, upd_same, h⟩⟩) trivial
              exact itok_keysT upd_same (rk.ext (ext_put R hn hc hf)) okk
          | _ => simp only [dkeys] at hk; cases hk
      · exact q.elim
    · exact q.elim
  · exact q.elim
theorem vis_of (F : Fit Γ Φ k W X) {i : Nat} {y : Str} {p : Pos} (h : Γ.vis i y = true) : PE X (.Name y p) (tVar i) := by
  unfold Gam.vis at h
  rw [Bool.and_eq_true, Bool.and_eq_true, decide_eq_true_eq] at h
  have hvis : Vis X.env.scope y := by
    have h2 := h.1.2
    unfold visB at h2
    unfold Vis
    rw [F.sc]
    split at h2
    · exact .inl (by assumption)
    · exact .inr (.inl (by assumption))
    · exact .inr (.inr (by assumption))
    · cases h2
  exact pe_var (by rw [F.N]; exact h.1.1) hvis (nm_d h.2) (nm_c h.2)
theorem ss_ford {tg : Expr} {y : Str} {body : List Stmt} {t : Tg} {i : Nat} {ss : List S} {p p2 : Pos} (F : Fit Γ Φ k W X) (hp : PassesOwn (model X.prog X.w) X.A X.env X.xe) (hT : cT Γ t tg = true) (hi : Γ.vis i y = true) (hb : PSs X body (LSs X W Φ ss)) :
    PS X (.For tg (.Name y p2) body [] p) (LS X W Φ (.ford t i ss)) :=
  ps_mono (ps_lock (ps_for hp F.calm (pi_bd (pi_keys (vis_of F hi))) (sg F.N F.nd F.sc F.fn F.calm t tg hT) hb (noFold rfl))) fun D σ H q => ford_read q
theorem ss_while {c : Expr} {body : List Stmt} {t : E} {ss : List S} {p : Pos} (hp : PassesOwn (model X.prog X.w) X.A X.env X.xe) (hc : SE X W Φ t c) (hb : PSs X body (LSs X W Φ ss)) : PS X (.While c body [] p) (LS X W Φ (.while_ t ss)) :=
  ps_mono (ps_while hp hc.2 hb) fun D σ H ⟨A, ρ, eH, R, en, q⟩ => by
    subst eH
    simp only [evS] at q
    unfold whileL at q
    split at q
    · rename_i hx
      have hw := Classical.choose_spec (Classical.choose_spec hx)
      refine ⟨fun m σ H => ∃ (C : Sit) (ρ : Env) (r : Res Ctl), C.H = H ∧ Rp X.K X.w C ∧ EnvR X.K X.w C σ ρ ∧ whileN (fun ρ S => (evE Φ t ρ S).bind toB) (evSs Φ ss) m ρ C.S = some r ∧ PstS X.K X.w X.mg W C r D, ⟨_, A, ρ, _, rfl, R, en, hw, q⟩, ?_⟩
      rintro m σ H ⟨C, ρ, r, rfl, RC, en, hN, hr⟩
      cases m with
      | zero => cases hN
      | succ m =>
        refine lt_ RC en ?_
        simp only [whileN] at hN
        cases hT : (evE Φ t ρ C.S).bind toB with
        | ok b S1 =>
          simp only [hT] at hN
          intro b' B x R2 e eb
          cases eb
          subst e
          cases b with
          | false =>
            cases hN
            exact psts_nx (psts_ext x hr) R2 (en.ext x)
          | true =>
            simp only [if_true]
            refine ⟨fun σ' H' => ∃ (C : Sit) (ρ : Env) (r : Res Ctl), C.H = H' ∧ Rp X.K X.w C ∧ EnvR X.K X.w C σ' ρ ∧ whileN (fun ρ S => (evE Φ t ρ S).bind toB) (evSs Φ ss) m ρ C.S = some r ∧ PstS X.K X.w X.mg W C r D, fun σ' H' h => ⟨m, Nat.lt_succ_self m, h⟩, lst_ R2 (en.ext x) ?_⟩
            cases hf : evSs Φ ss ρ B.S with
            | ok c S2 =>
              simp only [hf] at hN
              cases c with
              | nx ρ1 =>
                intro σ1 C1 x1 R1 e en1
                subst e
                exact ⟨C1, ρ1, r, rfl, R1, en1, hN, psts_ext (x.trans x1) hr⟩
              | ct ρ1 =>
                intro σ1 C1 x1 R1 e en1
                subst e
                exact ⟨C1, ρ1, r, rfl, R1, en1, hN, psts_ext (x.trans x1) hr⟩
              | bk ρ1 =>
                cases hN
                exact fun σ1 C1 x1 R1 e en1 => hr σ1 C1 (x.trans x1) R1 e en1
              | rt d =>
                cases hN
                exact fun v C1 x1 R1 e rv => hr v C1 (x.trans x1) R1 e rv
              | ex c fs ρ1 =>
                cases hN
                exact fun Ca dd C1 vs σ1 mg x1 R1 e en1 hd rk => hr Ca dd C1 vs σ1 mg (x.trans x1) R1 e en1 hd rk
            | exc c fs S2 =>
              simp only [hf] at hN
              cases hN
              exact hr.elim
            | stuck =>
              simp only [hf] at hN
              cases hN
              exact hr.elim
        | exc c fs S1 =>
          simp only [hT] at hN
          cases hN
          exact fun Ca dd G vs mg x R e hd rk => hr Ca dd G vs σ mg x R e (en.ext x) hd rk
        | stuck =>
          simp only [hT] at hN
          cases hN
          exact hr.elim
    · exact q.elim

/-! ### the check -/
end
def isLc : E → Bool
  | .lc _ _ _ _ _ _ => true
  | .lcd _ _ _ _ _ _ => true
  | _ => false
def isLC : Expr → Bool
  | .ListComp _ [⟨_, _, _, 0⟩] _ _ => true
  | _ => false
def parOk : List Tg → E → Bool
  | [.nm i, .nm j], .tup [_, _] => decide (i ≠ j)
  | [.nm i, .nm j, .nm l], .tup [_, _, _] => decide (i ≠ j) && decide (i ≠ l) && decide (j ≠ l)
  | _, _ => false
section
variable (Φ : Tab)
def cAsg (Γ : Gam) (t : Tg) (e : E) (tg x : Expr) : Bool := match t with
  | .nm i => match asName tg with
    | some y => Γ.loc i y && cE Φ Γ e x && (noComp x || (isLc e && isLC x))
    | none => false
  | .tp ts => match asTup tg with
    | some tgs => cTs Γ ts tgs && cE Φ Γ e x && noComp x && (match asTup x with
      | none => true
      | some vs => match swK Γ.sc tgs vs with
        | 0 => true
        | 1 => parOk ts e
        | _ => false)
    | none => false
mutual
def cS (Γ : Gam) : S → Stmt → Bool
  | .asg t e, st => match st with
    | .Assign [tg] x _ => cAsg Φ Γ t e tg x
    | _ => false
  | .sub o i e, st => match st with
    | .Assign [.Subscript o' i' _] x _ => noComp x && noSlice i' && cE Φ Γ o o' && cE Φ Γ i i' && cE Φ Γ e x
    | _ => false
  | .aug op i e, st => match st with
    | .AugAssign (.Name y _) op' x _ => opB op' op.op && Γ.loc i y && cE Φ Γ e x
    | _ => false
  | .expr e, st => match st with
    | .Expr x _ => noComp x && cE Φ Γ e x
    | _ => false
  | .ret e, st => match st with
    | .Return (some x) _ => cE Φ Γ e x
    | _ => false
  | .retN, st => match st with
    | .Return none _ => true
    | _ => false
  | .ite t a b, st => match st with
    | .If c x y _ => cE Φ Γ t c && cSs Γ a x && cSs Γ b y
    | _ => false
  | .for_ t it ss, st => match st with
    | .For tg i body [] _ => cT Γ t tg && noSet i && cIt Φ Γ it tg i && cSs Γ ss body
    | _ => false
  | .ford t v ss, st => match st with
    | .For tg (.Name y _) body [] _ => cT Γ t tg && Γ.vis v y && cSs Γ ss body
    | _ => false
  | .while_ t ss, st => match st with
    | .While c body [] _ => cE Φ Γ t c && cSs Γ ss body
    | _ => false
  | .pass, st => match st with
    | .Pass _ => true
    | _ => false
  | .brk, st => match st with
    | .Break _ => true
    | _ => false
  | .cnt, st => match st with
    | .Continue _ => true
    | _ => false
  | .never, _ => true
def cSs (Γ : Gam) : List S → List Stmt → Bool
  | [], [] => true
  | s :: ss, st :: sts => cS Γ s st && cSs Γ ss sts
  | [], _ :: _ => false
  | _ :: _, [] => false
end
end
section
variable {X : Cx} {W : WX} {Φ : Tab} {Γ : Gam} {k : Nat}
theorem sound_asg {t : Tg} {e : E} {tg x : Expr} {p : Pos} (h : cAsg Φ Γ t e tg x = true) (F : Fit Γ Φ k W X) : PS X (.Assign [tg] x p) (LS X W Φ (.asg t e)) := by
  cases t with
  | nm i =>
    simp only [cAsg] at h
    split at h
    · rename_i y hx
      obtain ⟨p2, rfl⟩ := asName_eq hx
      simp only [Bool.and_eq_true, Bool.or_eq_true] at h
      obtain ⟨⟨h1, h2⟩, h3⟩ := h
      have se := soundE e Γ x h2 X W F
      rcases h3 with h3 | ⟨h3, h4⟩
      · exact ss_set F h1 se.1 (noSwap h3)
      · unfold isLC at h4
        split at h4
        · rename_i l tg' it' fs sc p3
          cases hw : swB Γ.sc y p2 sc p3 with
          | false => exact ss_set F h1 se.1 (by rw [sw_eq F, hw])
          | true =>
            cases e with
            | lc nw el t it ifs own =>
              simp only [cE, asComp, Bool.and_eq_true] at h2
              obtain ⟨⟨⟨⟨⟨⟨g1, g2⟩, g3⟩, g4⟩, g5⟩, g6⟩, g7⟩ := h2
              exact ss_setLc F h1 hw g1 g2 g3 g4 (soundIt it Γ tg' it' g5 X W F) (soundIf ifs (Γ.blk sc) fs g6) (soundE el (Γ.blk sc) l g7)
            | lcd nw el t v ifs own =>
              simp only [cE, asComp] at h2
              split at h2
              · rename_i z hz
                obtain ⟨p4, rfl⟩ := asName_eq hz
                simp only [Bool.and_eq_true] at h2
                obtain ⟨⟨⟨⟨⟨g1, g2⟩, g3⟩, g4⟩, g6⟩, g7⟩ := h2
                exact ss_setLcd F h1 hw g1 g2 g3 g4 (soundIf ifs (Γ.blk sc) fs g6) (soundE el (Γ.blk sc) l g7)
              · cases h2
            | _ => cases h3
        · cases h4
    · cases h
  | tp ts =>
    simp only [cAsg] at h
    split at h
    · rename_i tgs hx
      obtain ⟨j, p2, rfl⟩ := asTup_eq hx
      simp only [Bool.and_eq_true] at h
      obtain ⟨⟨⟨h1, h2⟩, h3⟩, h4⟩ := h
      split at h4
      · rename_i hn
        exact ss_asgT F h1 (soundE e Γ x h2 X W F).1 h3 (sw_none hn)
      · rename_i vs hv
        obtain ⟨j3, p3, rfl⟩ := asTup_eq hv
        split at h4
        · rename_i hk
          exact ss_asgT F h1 (soundE e Γ _ h2 X W F).1 h3 (sw_zero F hk)
        · rename_i hk
          unfold parOk at h4
          split at h4
          · rename_i i j' a b
            have hij := of_decide_eq_true h4
            simp only [cE, asTup, Bool.and_eq_true, decide_eq_true_eq] at h2
            have se := soundEs [a, b] Γ vs h2.2 X W F
            match tgs, h1, hk, se with
            | [x1, x2], h1, hk, .cons s1 n1 (.cons s2 n2 .nil) =>
              simp only [cTs, cT, Bool.and_eq_true] at h1
              obtain ⟨⟨g1, _⟩, ⟨g2, _⟩, _⟩ := h1
              split at g1
              · rename_i y hy
                obtain ⟨q1, rfl⟩ := asName_eq hy
                split at g2
                · rename_i z hz
                  obtain ⟨q2, rfl⟩ := asName_eq hz
                  exact ss_par2 F g1 g2 hij hk (.cons s1 n1 (.cons s2 n2 .nil))
                · cases g2
              · cases g1
            | [], h1, _, _ => simp [cTs] at h1
            | [_], h1, _, _ => simp [cTs] at h1
            | _ :: _ :: _ :: _, h1, _, _ => simp [cTs] at h1
          · rename_i i j' l a b c
            simp only [Bool.and_eq_true, decide_eq_true_eq] at h4
            obtain ⟨⟨d1, d2⟩, d3⟩ := h4
            simp only [cE, asTup, Bool.and_eq_true, decide_eq_true_eq] at h2
            have se := soundEs [a, b, c] Γ vs h2.2 X W F
            match tgs, h1, hk, se with
            | [x1, x2, x3], h1, hk, .cons s1 n1 (.cons s2 n2 (.cons s3 n3 .nil)) =>
              simp only [cTs, cT, Bool.and_eq_true] at h1
              obtain ⟨⟨g1, _⟩, ⟨g2, _⟩, ⟨g3, _⟩, _⟩ := h1
              split at g1
              · rename_i y hy
                obtain ⟨q1, rfl⟩ := asName_eq hy
                split at g2
                · rename_i z hz
                  obtain ⟨q2, rfl⟩ := asName_eq hz
                  split at g3
                  · rename_i u hu
                    obtain ⟨q3, rfl⟩ := asName_eq hu
                    exact ss_par3 F g1 g2 g3 d1 d2 d3 hk (.cons s1 n1 (.cons s2 n2 (.cons s3 n3 .nil)))
                  · cases g3
                · cases g2
              · cases g1
            | [], h1, _, _ => simp [cTs] at h1
            | [_], h1, _, _ => simp [cTs] at h1
            | [_, _], h1, _, _ => simp [cTs] at h1
            | _ :: _ :: _ :: _ :: _, h1, _, _ => simp [cTs] at h1
          · cases h4
        · cases h4
    · cases h
mutual
theorem soundS : ∀ (s : S) (st : Stmt), cS Φ Γ s st = true → ∀ (X : Cx) (W : WX), Fit Γ Φ k W X → PassesOwn (model X.prog X.w) X.A X.env X.xe → PS X st (LS X W Φ s)
  | .asg t e, st, h, X, W, F, hp => by
    simp only [cS] at h
    split at h
    · exact sound_asg h F
    · cases h
  | .sub o i e, st, h, X, W, F, hp => by
    simp only [cS] at h
    split at h
    · simp only [Bool.and_eq_true] at h
      obtain ⟨⟨⟨⟨h1, h2⟩, h3⟩, h4⟩, h5⟩ := h
      exact ss_sub F (soundE o Γ _ h3 X W F).1 (soundE i Γ _ h4 X W F).1 (soundE e Γ _ h5 X W F).1 h1 h2
    · cases h
  | .aug op i e, st, h, X, W, F, hp => by
    simp only [cS] at h
    split at h
    · simp only [Bool.and_eq_true, opB, decide_eq_true_eq] at h
      obtain ⟨⟨rfl, h1⟩, h2⟩ := h
      exact ss_aug F h1 (soundE e Γ _ h2 X W F).1
    · cases h
  | .expr e, st, h, X, W, F, hp => by
    simp only [cS] at h
    split at h
    · rw [Bool.and_eq_true] at h
      exact ss_expr (soundE e Γ _ h.2 X W F).1 h.1
    · cases h
  | .ret e, st, h, X, W, F, hp => by
    simp only [cS] at h
    split at h
    · exact ss_ret (soundE e Γ _ h X W F).1
    · cases h
  | .retN, st, h, X, W, F, hp => by
    simp only [cS] at h
    split at h
    · exact ss_retN
    · cases h
  | .ite t a b, st, h, X, W, F, hp => by
    simp only [cS] at h
    split at h
    · simp only [Bool.and_eq_true] at h
      exact ss_ite (soundE t Γ _ h.1.1 X W F) (soundSs a _ h.1.2 X W F hp) (soundSs b _ h.2 X W F hp)
    · cases h
  | .for_ t it ss, st, h, X, W, F, hp => by
    simp only [cS] at h
    split at h
    · simp only [Bool.and_eq_true] at h
      exact ss_for F hp h.1.1.1 (soundIt it Γ _ _ h.1.2 X W F) (soundSs ss _ h.2 X W F hp) h.1.1.2
    · cases h
  | .ford t v ss, st, h, X, W, F, hp => by
    simp only [cS] at h
    split at h
    · simp only [Bool.and_eq_true] at h
      exact ss_ford F hp h.1.1 h.1.2 (soundSs ss _ h.2 X W F hp)
    · cases h
  | .while_ t ss, st, h, X, W, F, hp => by
    simp only [cS] at h
    split at h
    · rw [Bool.and_eq_true] at h
      exact ss_while hp (soundE t Γ _ h.1 X W F) (soundSs ss _ h.2 X W F hp)
    · cases h
  | .pass, st, h, X, W, F, hp => by
    simp only [cS] at h
    split at h
    · exact ss_pass
    · cases h
  | .brk, st, h, X, W, F, hp => by
    simp only [cS] at h
    split at h
    · exact ss_brk
    · cases h
  | .cnt, st, h, X, W, F, hp => by
    simp only [cS] at h
    split at h
    · exact ss_cnt
    · cases h
  | .never, st, h, X, W, F, hp => ss_never
theorem soundSs : ∀ (ss : List S) (sts : List Stmt), cSs Φ Γ ss sts = true → ∀ (X : Cx) (W : WX), Fit Γ Φ k W X → PassesOwn (model X.prog X.w) X.A X.env X.xe → PSs X sts (LSs X W Φ ss)
  | [], [], h, X, W, F, hp => ss_nil
  | s :: ss, st :: sts, h, X, W, F, hp => by
    simp only [cSs, Bool.and_eq_true] at h
    exact ss_cons (soundS s st h.1 X W F hp) (soundSs ss sts h.2 X W F hp)
  | [], _ :: _, h, X, W, F, hp => by simp only [cSs] at h; cases h
  | _ :: _, [], h, X, W, F, hp => by simp only [cSs] at h; cases h
end
end
end Cl

set_option linter.all false
set_option autoImplicit false
set_option maxRecDepth 100000
set_option maxHeartbeats 1000000
/-! Cl: a def that checks keeps the promise that it computes what evF says. -/
namespace Cl
open PySem PySem.Spec PyProof.Rows L2

/-! ### later cells are forgotten -/
section
variable {K : Frag} {w : World} {A B : Sit}
/-- the first n cells alone -/
def Sit.cut (B : Sit) (n : Nat) : Sit := { B with m := B.m.take n, S := B.S.take n }
theorem take_get {α : Type} {l : List α} {n i : Nat} {x : α} (h : (l.take n)[i]? = some x) : i < n ∧ l[i]? = some x := by
  rw [List.getElem?_take] at h
  split at h
  · exact ⟨by assumption, h⟩
  · cases h
theorem fz_cut {n : Nat} {a : Addr} (h : Fz B a) : Fz (B.cut n) a := ⟨h.1, fun i c hi hc => h.2 i c (take_get hi).2 (take_get hc).2⟩
mutual
theorem RV.cut {n : Nat} : ∀ {v : V} {d : D}, RV K w B v d → bnd n d → RV K w (B.cut n) v d
  | _, _, .non, _ => .non
  | _, _, .bl b, _ => .bl b
  | _, _, .int i, _ => .int i
  | _, _, .str x h, _ => .str x h
  | _, _, .tup h r, b => .tup h (RVs.cut' r (by simpa only [bnd] using b))
  | _, _, .con h r, b => .con h (RVs.cut' r (by simpa only [bnd] using b))
  | _, _, .scr h r, b => .scr (h.elim (fun ⟨o, e, f⟩ => .inl ⟨o, e, fz_cut f⟩) .inr) (RVs.cut' r (by simpa only [bnd] using b))
  | _, _, .lst h r, b => .lst ⟨h.1, fz_cut h.2⟩ (RVs.cut' r (by simpa only [bnd] using b))
  | _, _, .dct h hl r, b => .dct ⟨h.1, fz_cut h.2⟩ hl (RVs.cut' r (by simpa only [bnd] using b))
  | _, _, .cdc h hl r, b => .cdc h hl (RVs.cut' r (by simpa only [bnd] using b))
  | _, _, .ref (n := k) h, b => .ref (by
      have b : k < n := by simpa only [bnd] using b
      show (B.m.take n)[k]? = _
      rw [List.getElem?_take_of_lt b]
      exact h)
theorem RVs.cut' {n : Nat} : ∀ {vs : List V} {ds : List D}, RVs K w B vs ds → bnds n ds → RVs K w (B.cut n) vs ds
  | _, _, .nil, _ => .nil
  | _, _, .cons h r, b => by
    simp only [bnds] at b
    exact .cons (RV.cut h b.1) (RVs.cut' r b.2)
end
mutual
theorem RV.bnd : ∀ {v : V} {d : D}, RV K w A v d → Cl.bnd A.m.length d
  | _, _, .non => by simp only [Cl.bnd]
  | _, _, .bl b => by simp only [Cl.bnd]
  | _, _, .int i => by simp only [Cl.bnd]
  | _, _, .str x h => by simp only [Cl.bnd]
  | _, _, .tup h r => by simpa only [Cl.bnd] using RVs.bnds r
  | _, _, .con h r => by simpa only [Cl.bnd] using RVs.bnds r
  | _, _, .scr h r => by simpa only [Cl.bnd] using RVs.bnds r
  | _, _, .lst h r => by simpa only [Cl.bnd] using RVs.bnds r
  | _, _, .dct h hl r => by simpa only [Cl.bnd] using RVs.bnds r
  | _, _, .cdc h hl r => by simpa only [Cl.bnd] using RVs.bnds r
  | _, _, .ref h => by simpa only [Cl.bnd] using (List.getElem?_eq_some_iff.mp h).1
theorem RVs.bnds : ∀ {vs : List V} {ds : List D}, RVs K w A vs ds → Cl.bnds A.m.length ds
  | _, _, .nil => by simp only [Cl.bnds]
  | _, _, .cons h r => by
    simp only [Cl.bnds]
    exact ⟨RV.bnd h, RVs.bnds r⟩
end
theorem RKV.cut {κ : Type} {n : Nat} {kv : List (κ × V)} {kvs : List (κ × D)} (r : RKV K w B kv kvs) (b : bnds n (kvs.map (·.2))) : RKV K w (B.cut n) kv kvs := by
  induction r with
  | nil => exact .nil
  | cons h r ih =>
    simp only [List.map_cons, bnds] at b
    exact .cons (h.cut b.1) (ih b.2)
theorem CellOk.bnd {a : Addr} {c : Cell} (h : CellOk K w A a c) : cbnd A.m.length c := by
  cases c with
  | lst ds =>
    obtain ⟨vs, _, r⟩ := h
    exact r.bnds
  | dK kvs l =>
    obtain ⟨kv, _, r, _⟩ := h
    exact r.rvs.bnds
  | dT kvs l =>
    obtain ⟨kv, _, r, _⟩ := h
    exact r.rvs.bnds
  | dead => trivial
theorem CellOk.cut {n : Nat} {a : Addr} {c : Cell} (h : CellOk K w B a c) (b : cbnd n c) : CellOk K w (B.cut n) a c := by
  cases c with
  | lst ds =>
    obtain ⟨vs, e, r⟩ := h
    exact ⟨vs, e, r.cut' b⟩
  | dK kvs l =>
    obtain ⟨kv, e, r, o⟩ := h
    exact ⟨kv, e, r.cut b, o⟩
  | dT kvs l =>
    obtain ⟨kv, e, r, o⟩ := h
    exact ⟨kv, e, r.cut b, o⟩
  | dead => trivial
theorem trim_sit {v : V} {d : D} (x : Ext A B) (RA : Rp K w A) (RB : Rp K w B) (rv : RV K w B v d) : ∃ C : Sit, C.H = B.H ∧ Ext A C ∧ Rp K w C ∧ C.S = trim A.S.length A.S d B.S ∧ RV K w C v d := by
  unfold trim
  split
  · rename_i h
    obtain ⟨hd, hc⟩ := h
    refine ⟨B.cut A.S.length, rfl, ?_, ?_, rfl, rv.cut hd⟩
    · obtain ⟨l, hl⟩ := x.pre
      refine ⟨⟨⟨⟨[], ?_⟩, fun a o e f => ?_, x.tups⟩, x.frzs⟩, x.priv⟩
      · show B.m.take A.S.length = A.m ++ []
        rw [hl, ← RA.len, List.take_left, List.append_nil]
      · obtain ⟨e1, f1⟩ := x.keep a o e f
        exact ⟨e1, fz_cut f1⟩
    · refine ⟨?_, fun i j a c c' hi hj h1 h2 d1 d2 => RB.inj i j a c c' (take_get hi).2 (take_get hj).2 (take_get h1).2 (take_get h2).2 d1 d2, fun a ha i c hi hc' => RB.pvn a ha i c (take_get hi).2 (take_get hc').2, RB.pvs, fun i a c hi hc' => ?_⟩
      · show (B.m.take _).length = (B.S.take _).length
        rw [List.length_take, List.length_take, RB.len]
      · obtain ⟨hlt, hi'⟩ := take_get hi
        obtain ⟨_, hc''⟩ := take_get hc'
        refine (RB.cell i a c hi' hc'').cut ?_
        rcases hc i hlt with e | ⟨c2, e, b⟩
        · rw [hc''] at e
          obtain ⟨a2, _, ok⟩ := RA.at_ e.symm
          have := ok.bnd
          rw [RA.len] at this
          exact this
        · rw [hc''] at e
          cases e
          exact b
  · exact ⟨B, rfl, x, RB, rfl, rv⟩
end

/-! ### the rule of a def -/
def scopeB (N P : List Str) (sc : Scope) : Bool :=
  (match sc.kind with
    | .function => true
    | _ => false) && !sc.isCoroutine && !sc.isGenerator && decide N.Nodup && decide (N.take P.length = P) && P.all (fun y => visB sc y && !decide (sc.names.lookup y = some .free)) && sc.names.all fun y => !decide (y.2 = .free)
theorem scope_by {N P : List Str} {sc : Scope} (h : scopeB N P sc = true) : FnScope N P sc := by
  unfold scopeB at h
  simp only [Bool.and_eq_true, List.all_eq_true, Bool.not_eq_true', decide_eq_true_eq, decide_eq_false_iff_not] at h
  obtain ⟨⟨⟨⟨⟨⟨h1, h2⟩, h3⟩, h4⟩, h5⟩, h6⟩, h7⟩ := h
  refine ⟨?_, h2, h3, h4, h5, fun y hy => ?_, h7⟩
  · split at h1
    · assumption
    · cases h1
  · obtain ⟨g1, g2⟩ := h6 y hy
    unfold visB at g1
    split at g1
    · exact .inl (by assumption)
    · exact .inr (by assumption)
    · exact absurd (by assumption) g2
    · cases g1
section
variable {P : Program} {w : World} {K : Frag} {mg : Str → Option Value} {base : Heap}
theorem env_start {A : Sit} {vs : List V} {ds : List D} (r : RVs K w A vs ds) (N : List Str) : EnvR K w A (L2.start N vs) (ds.map some ++ List.replicate (N.length - ds.length) none) := by
  have hl := r.length
  refine ⟨by simp [L2.start, hl], fun i d h => ?_⟩
  unfold L2.start
  by_cases hi : i < ds.length
  · rw [List.getElem?_append_left (by simpa using hi), List.getElem?_map] at h
    cases e : ds[i]? with
    | none => rw [e] at h; cases h
    | some d' =>
      rw [e] at h
      cases h
      obtain ⟨v, h1, h2⟩ := r.get e
      refine ⟨v, ?_, h2⟩
      rw [List.getElem?_append_left (by rw [List.length_map]; omega), List.getElem?_map, h1]
      rfl
  · rw [List.getElem?_append_right (by simpa using hi), List.getElem?_replicate] at h
    split at h <;> cases h
theorem sound_def {x qual : Str} {params : Arguments} {body : List Stmt} {scope : Scope} {dvs : List V} {kws : List (Str × V)} {f : Addr} {fd : FuncData} {N ps : List Str} {k : Nat} {Φ : Tab} {ss : List S}
    (Fd : FunD K x qual params body scope dvs kws f fd) (Sc : FnScope N ps scope) (hc : cSs Φ ⟨N, scope, fun _ => true⟩ ss body = true) (us : ∀ (i : Nat) (u : Use), Φ[i]? = some u → UseOk P w K mg base k u) :
    FnOk P w K mg base (L2.CX P w) (k + 1) f fd ps (spF K w mg ps.length (evF Φ N.length ss)) := by
  refine Fd.ok Sc (fun vs H Q E h => h.1) fun cdv A outer s H vs Q E hr hsp => ?_
  obtain ⟨hl, A0, ds, rfl, R, rs, q⟩ := hsp
  have F : Fit ⟨N, scope, fun _ => true⟩ Φ k (fun cls d _ H => E cls d H) (cxOf (L2.CX P w) P w K mg base N qual scope f cdv A outer s A0.H E) :=
    ⟨rfl, Sc.nd, rfl, Sc.kind, fun _ _ => rfl, rfl, hr, takes_of rfl rfl rfl rfl, us⟩
  refine ⟨_, soundSs ss body hc _ _ F (passes_of rfl), A0, _, rfl, R, env_start rs N, ?_⟩
  unfold evF at q
  cases hr : evSs Φ ss (ds.map some ++ List.replicate (N.length - ds.length) none) A0.S with
  | ok c S1 =>
    simp only [hr] at q
    cases c with
    | rt d =>
      intro v B x R2 e rv
      subst e
      obtain ⟨C, e1, x1, R1, e2, rv1⟩ := trim_sit x R R2 rv
      have := q v C x1 R1 e2 rv1
      rw [e1] at this
      exact this
    | nx ρ =>
      intro σ B x R2 e en
      subst e
      obtain ⟨C, e1, x1, R1, e2, rv1⟩ := trim_sit (v := .non) x R R2 .non
      have := q .non C x1 R1 e2 rv1
      rw [e1] at this
      exact this
    | ex c fs ρ => exact fun C dd B vs σ m x R e en hd rk => q C dd B vs m x R e hd rk
    | bk ρ => exact q.elim
    | ct ρ => exact q.elim
  | exc c fs S1 => simp only [hr] at q; exact q.elim
  | stuck => simp only [hr] at q; exact q.elim
/-- a weaker reading -/
theorem sp_weak {k : Nat} {f : Addr} {fd : FuncData} {ps : List Str} {F G : Fn} (h : FnOk P w K mg base (L2.CX P w) k f fd ps (spF K w mg ps.length F)) (hG : ∀ ds S, ds.length = ps.length → G ds S ≠ .stuck → F ds S = G ds S) :
    FnOk P w K mg base (L2.CX P w) k f fd ps (spF K w mg ps.length G) :=
  h.imp fun vs H Q E ⟨hl, A, ds, e, R, rs, q⟩ => ⟨hl, A, ds, e, R, rs, by
    rw [hG ds A.S (by rw [← rs.length]; exact hl) (fun z => by rw [z] at q; exact q)]
    exact q⟩
theorem UseOk.mono {j k : Nat} (h : j ≤ k) : ∀ {u : Use}, UseOk P w K mg base j u → UseOk P w K mg base k u
  | .fn f ps F, ⟨fa, fd, Fo, r⟩ => ⟨fa, fd, Fo.mono h, r⟩
  | .kw f ks pi F, ⟨fa, fd, ps, Fo, r⟩ => ⟨fa, fd, ps, Fo.mono h, r⟩
  | .con x d, r => r
  | .free x, r => r
end
end Cl

set_option linter.all false
set_option autoImplicit false
set_option maxRecDepth 100000
set_option maxHeartbeats 1000000
/-! Cl: a module's constants; the end of a law. -/
namespace Cl
open PySem PySem.Spec PyProof.Rows L2

/-! ### constants -/
mutual
def datB (K : Frag) : D → Value → Bool
  | .non, u => (match u with
    | .none => true
    | _ => false)
  | .bl b, u => (match u with
    | .bool c => b == c
    | _ => false)
  | .int i, u => (match u with
    | .int j _ => decide (i = j)
    | _ => false)
  | .str x, u => (match u with
    | .str y _ => decide (x = y) && okSb x
    | _ => false)
  | .con ds, u => (match u with
    | .ref a => (match K.lookup a with
      | some ⟨.type c, _, .seq its _, _⟩ => decide (c = "tuple") && decide (its.size ≤ line) && datsB K ds its.toList
      | _ => false)
    | _ => false)
  | .tup _, _ => false
  | .scr _, _ => false
  | .lst _, _ => false
  | .dct _ _, _ => false
  | .cdc _ _, _ => false
  | .ref _, _ => false
def datsB (K : Frag) : List D → List Value → Bool
  | [], [] => true
  | d :: ds, u :: us => datB K d u && datsB K ds us
  | [], _ :: _ => false
  | _ :: _, [] => false
end
section
variable {K : Frag} {w : World}
mutual
theorem datB_ok : ∀ {d : D} {u : Value}, datB K d u = true → ∃ v, RelV v u ∧ ∀ A, RV K w A v d
  | .non, u, h => by
    simp only [datB] at h
    split at h
    · exact ⟨.non, rfl, fun A => .non⟩
    · cases h
  | .bl b, u, h => by
    simp only [datB] at h
    split at h
    · have e := beq_iff_eq.mp h
      subst e
      exact ⟨.bl _, rfl, fun A => .bl _⟩
    · cases h
  | .int i, u, h => by
    simp only [datB] at h
    split at h
    · have e := of_decide_eq_true h
      subst e
      exact ⟨.int _, ⟨_, rfl⟩, fun A => .int _⟩
    · cases h
  | .str x, u, h => by
    simp only [datB] at h
    split at h
    · rw [Bool.and_eq_true, decide_eq_true_eq] at h
      obtain ⟨e, h⟩ := h
      subst e
      exact ⟨.str _, ⟨_, rfl⟩, fun A => .str _ (okS_of h)⟩
    · cases h
  | .con ds, u, h => by
    simp only [datB] at h
    split at h
    · rename_i a
      split at h
      · rename_i c od its n sl hk
        rw [Bool.and_eq_true, Bool.and_eq_true, decide_eq_true_eq, decide_eq_true_eq] at h
        obtain ⟨⟨rfl, hz⟩, hd⟩ := h
        obtain ⟨vs, r, q⟩ := datsB_ok hd
        exact ⟨.ref a, rfl, fun A => .con (fun H => .inr ⟨_, its, n, hk, rfl, rfl, by rw [← line_eq]; exact hz, r⟩) (q A)⟩
      · cases h
    · cases h
  | .tup _, _, h => by simp only [datB] at h; cases h
  | .scr _, _, h => by simp only [datB] at h; cases h
  | .lst _, _, h => by simp only [datB] at h; cases h
  | .dct _ _, _, h => by simp only [datB] at h; cases h
  | .cdc _ _, _, h => by simp only [datB] at h; cases h
  | .ref _, _, h => by simp only [datB] at h; cases h
theorem datsB_ok : ∀ {ds : List D} {us : List Value}, datsB K ds us = true → ∃ vs, Vals vs us ∧ ∀ A, RVs K w A vs ds
  | [], [], _ => ⟨[], .nil, fun A => .nil⟩
  | d :: ds, u :: us, h => by
    simp only [datsB, Bool.and_eq_true] at h
    obtain ⟨v, h1, h2⟩ := datB_ok h.1
    obtain ⟨vs, h3, h4⟩ := datsB_ok h.2
    exact ⟨v :: vs, .cons h1 h3, fun A => .cons (h2 A) (h4 A)⟩
  | [], _ :: _, h => by simp only [datsB] at h; cases h
  | _ :: _, [], h => by simp only [datsB] at h; cases h
end
/-- an entry's text key -/
def eKey (e : DictEntry) : Option Str := match e.key with
  | .str x _ => some x
  | _ => none
def dictB (K : Frag) (a : Addr) (ks : List Str) (vs : List D) : Bool := match K.lookup a with
  | some ⟨_, _, .dict es _, _⟩ => decide (es.toList.map eKey = ks.map some) && datsB K vs (es.toList.map (·.val))
  | _ => false
theorem find_key : ∀ {es : List DictEntry} {ks : List Str} {vs : List V} (z : Str), es.map eKey = ks.map some → Vals vs (es.map (·.val)) →
    match valV (ks.zip vs) z with
    | some v => ∃ u, (es.find? (·.key.isStr z)).map (·.val) = some u ∧ RelV v u
    | none => es.find? (·.key.isStr z) = none ∧ es.any (·.refKey) = false
  | [], ks, vs, z, h1, h2 => by
    cases ks with
    | nil => exact ⟨rfl, rfl⟩
    | cons k ks => simp at h1
  | e :: es, ks, vs, z, h1, h2 => by
    cases ks with
    | nil => simp at h1
    | cons k ks =>
      cases h2 with
      | @cons v _ vs _ r rr =>
        simp only [List.map_cons, List.cons.injEq] at h1
        obtain ⟨h1, h3⟩ := h1
        have ih := find_key z h3 rr
        have ek : ∃ t, e.key = .str k t := by
          unfold eKey at h1
          split at h1
          · rename_i x t q
            cases h1
            exact ⟨t, q⟩
          · cases h1
        obtain ⟨t, ek⟩ := ek
        have eis : e.key.isStr z = decide (k = z) := by
          rw [ek]
          show (k == z) = decide (k = z)
          by_cases q : k = z
          · subst q; simp
          · simp [q]
        unfold valV at ih ⊢
        rw [List.zip_cons_cons, List.find?_cons]
        by_cases q : k = z
        · subst q
          simp only [decide_true, Option.map_some]
          refine ⟨e.val, ?_, r⟩
          rw [List.find?_cons, eis]
          simp
        · simp only [q, decide_false]
          rw [List.find?_cons, eis, List.any_cons]
          have er : e.refKey = false := by
            unfold DictEntry.refKey
            rw [ek]
          simp only [q, decide_false, er, Bool.false_or]
          exact ih
theorem dict_rv {a : Addr} {ks : List Str} {vs : List D} {es : Array DictEntry} {n : Nat} (hK : KDict K w a es n) (h : dictB K a ks vs = true) : ∀ A, RV K w A (.ref a) (.cdc ks vs) := by
  unfold dictB at h
  rw [hK.at_] at h
  simp only [Bool.and_eq_true, decide_eq_true_eq] at h
  obtain ⟨h1, h2⟩ := h
  obtain ⟨us, r, q⟩ := datsB_ok (w := w) h2
  intro A
  have hl : ks.length = vs.length := by
    have e1 := congrArg List.length h1
    have e2 := r.length
    have e3 := (q A).length
    simp only [List.length_map] at e1 e2
    omega
  refine .cdc (vs := us) ⟨es, n, hK, fun z => ?_⟩ hl (q A)
  have f := find_key z h1 r
  have hn : PySem.W.nsIn K a z = (match es.toList.find? (·.key.isStr z) with
      | some e => some (some e.val)
      | none => if es.toList.any (·.refKey) then none else some none) := by
    unfold PySem.W.nsIn
    rw [hK.at_]
    rfl
  rw [hn]
  cases e : valV (ks.zip us) z with
  | some v =>
    simp only [e] at f ⊢
    obtain ⟨u, f1, f2⟩ := f
    cases e2 : es.toList.find? (·.key.isStr z) with
    | none => rw [e2] at f1; cases f1
    | some en =>
      rw [e2] at f1
      cases f1
      exact ⟨_, rfl, f2⟩
  | none =>
    simp only [e] at f ⊢
    rw [f.1]
    simp only [f.2]
    rfl
/-- a module's constant, as it is looked at -/
def conB (K : Frag) (p : Str × D) : Bool := match PySem.W.nsIn K mainGlobals p.1 with
  | some (some u) => (match p.2 with
    | .cdc ks vs => (match u with
      | .ref a => dictB K a ks vs
      | _ => false)
    | d => datB K d u)
  | _ => false
def consB (l : List (Str × D)) (K : Frag) : Bool := l.all (conB K)
variable {P : Program} {mg : Str → Option Value} {base h : Heap} {k : Nat}
theorem use_con {x : Str} {d : D} (X : K.In h) (G : h.Ns mainGlobals mg) (c : conB K (x, d) = true) (hd : ∀ ks vs, d ≠ .cdc ks vs) : UseOk P w K mg base k (.con x d) := by
  unfold conB at c
  split at c
  · rename_i u hu
    have c : datB K d u = true := by
      cases d <;> first | exact c | exact absurd rfl (hd _ _)
    obtain ⟨v, h1, h2⟩ := datB_ok (w := w) c
    exact ⟨v, u, PySem.W.mg_of X G hu, h1, h2⟩
  · cases c
theorem use_cdc {x : Str} {ks : List Str} {vs : List D} {es : Array DictEntry} {n : Nat} (X : K.In h) (G : h.Ns mainGlobals mg) (c : conB K (x, .cdc ks vs) = true) (t : KDict K w (He.ga K x) es n) : UseOk P w K mg base k (.con x (.cdc ks vs)) := by
  unfold conB at c
  split at c
  · rename_i u hu
    split at c
    · rename_i ks' vs' ed
      cases ed
      split at c
      · rename_i a
        have ea : He.ga K x = a := by
          unfold He.ga
          rw [hu]
        rw [ea] at t
        exact ⟨.ref a, .ref a, PySem.W.mg_of X G hu, rfl, dict_rv t c⟩
      · cases c
    · rename_i ne
      exact absurd rfl (ne _ _)
  · cases c
theorem use_free {x : Str} (X : K.In h) (G : h.Ns mainGlobals mg) (c : (He.Fa.free x).ok K = true) : UseOk P w K mg base k (.free x) := He.free_ok X G c
theorem us_nil : ∀ (i : Nat) (u : Use), ([] : Tab)[i]? = some u → UseOk P w K mg base k u := fun i u e => by simp at e
theorem us_cons {u0 : Use} {Φ : Tab} (h0 : UseOk P w K mg base k u0) (h : ∀ (i : Nat) (u : Use), Φ[i]? = some u → UseOk P w K mg base k u) : ∀ (i : Nat) (u : Use), (u0 :: Φ)[i]? = some u → UseOk P w K mg base k u := fun i u e => by
  cases i with
  | zero => simp at e; subst e; exact h0
  | succ i => exact h i u (by simpa using e)
end

/-- a call by keywords alone -/
theorem bindsK {K : Frag} {x qual : Str} {params : Arguments} {body : List Stmt} {scope : Scope} {kws : List (Str × V)} {f : Addr} {fd : FuncData} {ps ks : List Str} {pi : List Nat} (F : FunD K x qual params body scope [] kws f fd)
    (h : ∀ (kV doc pm : Value) (an : Option Addr) (cdv ct : Value) (ws : List Value), ws.length = ks.length → bindArgs (PySem.W.fnOf x qual params body scope .none kV doc pm an cdv ct) ⟨[], ks.zip ws⟩ = pure (ps.zip (perm pi ws)))
    (s : Shared) (ws : List Value) (hl : ws.length = ks.length) : BindsTo s fd ⟨[], ks.zip ws⟩ (ps.zip (perm pi ws)) := by
  obtain ⟨oc, od, dV, kV, doc, pm, an, cdv, ct, osl, rfl, lk, hcd, hD, hK⟩ := F.ex
  rcases hD with ⟨_, rfl⟩ | ⟨e, _⟩
  · exact .of_eq (h kV doc pm an cdv ct ws hl)
  · exact absurd rfl e

/-! ### the end: the law's promise -/
/-- the script is a list of whole numbers; the answer is True -/
theorem sp_law {K : Frag} {w : World} {mg : Str → Option Value} {F : Fn} {H : Hp} {a : Addr} {ns : List Int} (hO : Only H) (hS : SqL K H a (ns.map V.int)) (hF : ∃ S, F [.scr (ns.map .int)] [] = .ok (.bl true) S) :
    spF K w mg 1 F [.ref a] H (fun v _ => v = .bl true) fun _ _ _ => False := by
  obtain ⟨S, hF⟩ := hF
  have R : Rp K w ⟨[], [], [], H⟩ := ⟨rfl, fun i j a c c' hi => by simp at hi, fun a m => by simp at m, fun a m => by simp at m, fun i a c hi => by simp at hi⟩
  have rs : ∀ ns : List Int, RVs K w ⟨[], [], [], H⟩ (ns.map V.int) (ns.map D.int) := fun ns => by
    induction ns with
    | nil => exact .nil
    | cons n ns ih => exact .cons (.int n) ih
  have sa : SAt K ⟨[], [], [], H⟩ a (ns.map V.int) := by
    rcases hS with (h | ⟨o, h⟩) | ⟨o, its, n, h⟩
    · rcases hO a with e | ⟨o, xs, e⟩
      · rw [h] at e; cases e
      · rw [h] at e; cases e
    · exact .inl ⟨o, h, (fun m => by simp at m), fun i c hi => by simp at hi⟩
    · exact .inr fun H => .inr ⟨o, its, n, h⟩
  refine ⟨rfl, ⟨[], [], [], H⟩, [.scr (ns.map .int)], rfl, R, .cons (.scr sa (rs ns)) .nil, ?_⟩
  show Pst K w mg _ _ _ (F [.scr (ns.map .int)] []) _
  rw [hF]
  intro v B x RB e rv
  exact rv_bl rv
/-- the end over facts of the heap -/
theorem walk_cl {l : PySem.W.OpenLaw} {n k : Nat} {q : Program} {ls : List Str} {XP : (Str → Option Value) → Heap → Prop} {YP : World → Heap → Prop} {d : DefRec} {x : Str} (m0 : l.most = some n) (m1 : n ≤ sizeLine) (m2 : d.params.defaults = []) (m3 : Room k callerA)
    (F : ∀ (w : World) (mg : Str → Option Value) (fa : Addr) (h : Heap), YP w h → h.Ns mainGlobals mg → mg d.name = some (.ref fa) → ∃ (K : Frag) (fd : FuncData) (sp : Sp), K.In h ∧
      (∀ (s : Shared) (u : Value), BindsTo s fd ⟨[u], []⟩ [(x, u)]) ∧
      (∀ (H : Hp) (a : Addr) (is : List Int), is.length ≤ n → Only H → SqL K H a (is.map V.int) → sp [.ref a] H (fun v _ => v = .bl true) fun _ _ _ => False) ∧
      ∀ base : Heap, K.In base → base.Ns mainGlobals mg → FnOk l.prog w K mg base (L2.CX l.prog w) k fa fd [x] sp) : PySem.W.WalkO q ls XP YP l.row.toRowW d [] (fun f vs => PySem.call f vs) :=
  Att.attach_call m0 m2 fun w s0 s1 mg mb fa o pm cd doc a vs ns G Y ho hd hcd hmg hobj hi hl hg => by
    obtain ⟨K, fd, sp, KX, hb, h1, h2⟩ := F w mg fa _ Y G.T.g hmg
    refine law_call KX G.T.g G.T.b G.T.builtins G.T.nolimit hg hobj hi (Nat.le_trans hl m1) m3 h2 hb (fun H hO hS => h1 H a ns hl hO hS) fun H e s' h => ?_
    obtain ⟨_, _, _, _, _, _, _, _, _, _, _, _, z⟩ := h
    exact z.elim
end Cl

set_option linter.all false
set_option autoImplicit false
set_option maxRecDepth 100000
/-! Cl: reckoning with it. -/
namespace Cl
open PySem


/-! ### the cells behind a call -/
theorem trim_same (S : Store) (d : D) : trim S.length S d S = S := by
  unfold trim
  split
  · exact List.take_length
  · rfl
theorem trim_app {S l : Store} {d : D} (h : bnd S.length d) : trim S.length S d (S ++ l) = S := by
  unfold trim
  rw [if_pos]
  · rw [List.take_left]
  · exact ⟨h, fun i hi => .inl (List.getElem?_append_left hi)⟩
/-- cells were changed, others came -/
theorem trim_mod {S S2 l : Store} {d : D} (hl : S2.length = S.length) (h : bnd S.length d) (hc : ∀ i, i < S.length → S2[i]? = S[i]? ∨ ∃ c, S2[i]? = some c ∧ cbnd S.length c) : trim S.length S d (S2 ++ l) = S2 := by
  unfold trim
  rw [if_pos]
  · rw [← hl, List.take_left]
  · refine ⟨h, fun i hi => ?_⟩
    rw [List.getElem?_append_left (by omega)]
    exact hc i hi
/-- something new is named -/
theorem trim_keep {S S1 : Store} {d : D} (h : ¬ bnd S.length d) : trim S.length S d S1 = S1 := by
  unfold trim
  rw [if_neg]
  exact fun z => h z.1
mutual
def flatD : D → Bool
  | .non | .bl _ | .int _ | .str _ => true
  | .tup ds | .con ds | .scr ds | .lst ds => flatDs ds
  | .dct _ vs | .cdc _ vs => flatDs vs
  | .ref _ => false
def flatDs : List D → Bool
  | [] => true
  | d :: ds => flatD d && flatDs ds
end
mutual
theorem flat_bnd (n : Nat) : ∀ {d : D}, flatD d = true → bnd n d
  | .non, _ | .bl _, _ | .int _, _ | .str _, _ => by simp only [bnd]
  | .tup ds, h | .con ds, h | .scr ds, h | .lst ds, h => by
    simp only [bnd]
    exact flats_bnd n (by simpa only [flatD] using h)
  | .dct _ vs, h | .cdc _ vs, h => by
    simp only [bnd]
    exact flats_bnd n (by simpa only [flatD] using h)
  | .ref _, h => by simp [flatD] at h
theorem flats_bnd (n : Nat) : ∀ {ds : List D}, flatDs ds = true → bnds n ds
  | [], _ => by simp only [bnds]
  | d :: ds, h => by
    simp only [flatDs, Bool.and_eq_true] at h
    simp only [bnds]
    exact ⟨flat_bnd n h.1, flats_bnd n h.2⟩
end
theorem flatDs_all : ∀ {ds : List D}, flatDs ds = ds.all flatD
  | [] => by simp only [flatDs, List.all_nil]
  | d :: ds => by simp only [flatDs, List.all_cons, flatDs_all (ds := ds)]
theorem fits_all (n : Nat) : ∀ {ds : List D}, fits n ds = ds.all (fit n)
  | [] => by simp only [fits, List.all_nil]
  | d :: ds => by simp only [fits, List.all_cons, fits_all n (ds := ds)]

/-! ### comprehensions -/
theorem st_none {l : List D} {S : Store} : (⟨l, none⟩ : Itr).st S := trivial
/-- nothing is asked, each item gives a value, the cells stay -/
theorem lcL_map {J : Itr} {f : D → Store → Res (Option D)} {g : D → D} {S : Store} (hs : J.st S) : ∀ {ds : List D}, (∀ d ∈ ds, f d S = .ok (some (g d)) S) → lcL J f ds S = .ok (ds.map g) S
  | [], _ => by rw [lcL, if_pos hs]; rfl
  | d :: ds, h => by
    rw [lcL, if_pos hs, h d (List.mem_cons_self ..), Res.bind_ok, lcL_map hs fun e m => h e (List.mem_cons_of_mem _ m)]
    rfl
theorem lcL_filterMap {J : Itr} {f : D → Store → Res (Option D)} {g : D → Option D} {S : Store} (hs : J.st S) : ∀ {ds : List D}, (∀ d ∈ ds, f d S = .ok (g d) S) → lcL J f ds S = .ok (ds.filterMap g) S
  | [], _ => by rw [lcL, if_pos hs]; rfl
  | d :: ds, h => by
    rw [lcL, if_pos hs, h d (List.mem_cons_self ..), Res.bind_ok, lcL_filterMap hs fun e m => h e (List.mem_cons_of_mem _ m), Res.bind_ok, List.filterMap_cons]
    cases g d <;> rfl
/-- with cells that change: P holds of what was made so far -/
theorem lcL_inv {J : Itr} {f : D → Store → Res (Option D)} (P : List D → List D → Store → Prop) (hs : ∀ done acc S, P done acc S → J.st S) :
    ∀ {ds done acc : List D} {S : Store}, P done acc S → (∀ done d rest acc S, done ++ d :: rest = done ++ d :: rest → d ∈ ds → P done acc S → ∃ o S', f d S = .ok o S' ∧ P (done ++ [d]) (acc ++ o.toList) S') →
      ∃ r S', lcL J f ds S = .ok r S' ∧ P (done ++ ds) (acc ++ r) S'
  | [], done, acc, S, h, _ => ⟨[], S, by rw [lcL, if_pos (hs _ _ _ h)], by simpa using h⟩
  | d :: ds, done, acc, S, h, step => by
    obtain ⟨o, S1, e1, h1⟩ := step done d ds acc S rfl (List.mem_cons_self ..) h
    obtain ⟨r, S2, e2, h2⟩ := lcL_inv P hs (ds := ds) h1 fun done d rest acc S e m => step done d rest acc S e (List.mem_cons_of_mem _ m)
    refine ⟨o.toList ++ r, S2, ?_, ?_⟩
    · rw [lcL, if_pos (hs _ _ _ h), e1, Res.bind_ok, e2, Res.bind_ok]
    · simpa [List.append_assoc] using h2

/-! ### loops -/
theorem forL_inv {J : Itr} {f : D → Env → Store → Res Ctl} (P : List D → Env → Store → Prop) (hs : ∀ done ρ S, P done ρ S → J.st S) :
    ∀ {ds done : List D} {ρ : Env} {S : Store}, P done ρ S → (∀ done d ρ S, d ∈ ds → P done ρ S → ∃ ρ' S', f d ρ S = .ok (.nx ρ') S' ∧ P (done ++ [d]) ρ' S') →
      ∃ ρ' S', forL J f ds ρ S = .ok (.nx ρ') S' ∧ P (done ++ ds) ρ' S'
  | [], done, ρ, S, h, _ => ⟨ρ, S, by rw [forL, if_pos (hs _ _ _ h)], by simpa using h⟩
  | d :: ds, done, ρ, S, h, step => by
    obtain ⟨ρ1, S1, e1, h1⟩ := step done d ρ S (List.mem_cons_self ..) h
    obtain ⟨ρ2, S2, e2, h2⟩ := forL_inv P hs (ds := ds) h1 fun done d ρ S m => step done d ρ S (List.mem_cons_of_mem _ m)
    refine ⟨ρ2, S2, ?_, by simpa using h2⟩
    rw [forL, if_pos (hs _ _ _ h), e1, Res.bind_ok]
    exact e2

/-! ### all, any -/
theorem bools_map (bs : List Bool) : bools (bs.map D.bl) = some bs := by
  induction bs with
  | nil => rfl
  | cons b bs ih => simp only [List.map_cons, bools, ih, Option.map_some]
theorem txts_map (ss : List Str) : txts (ss.map D.str) = some ss := by
  induction ss with
  | nil => rfl
  | cons b bs ih => simp only [List.map_cons, txts, ih, Option.map_some]
/-! ### pure comprehensions -/
section
variable {Φ : Tab} {nw : Bool} {el it c : E} {t : Tg} {own : List Nat} {ρ : Env} {S : Store} {items : List D} {cl : Option (Nat × Cell)}
theorem lc_eq (g : D → D) (h1 : evIt Φ it ρ S = .ok ⟨items, cl⟩ S) (hst : (⟨items, cl⟩ : Itr).st S) (h2 : ∀ d ∈ items, ∃ ρ2, asgT t d (wipe ρ own) = some ρ2 ∧ evE Φ el ρ2 S = .ok (g d) S) :
    evE Φ (.lc nw el t it none own) ρ S = mk nw (items.map g) S := by
  simp only [evE]
  rw [h1, Res.bind_ok, lcL_map (g := g) hst, Res.nox_ok, Res.bind_ok]
  intro d hd
  obtain ⟨ρ2, e1, e2⟩ := h2 d hd
  simp only [e1, evIf, Res.bind_ok, if_true, e2]
theorem lc_eqF (p : D → Bool) (g : D → D) (h1 : evIt Φ it ρ S = .ok ⟨items, cl⟩ S) (hst : (⟨items, cl⟩ : Itr).st S)
    (h2 : ∀ d ∈ items, ∃ ρ2, asgT t d (wipe ρ own) = some ρ2 ∧ evE Φ c ρ2 S = .ok (.bl (p d)) S ∧ (p d = true → evE Φ el ρ2 S = .ok (g d) S)) :
    evE Φ (.lc nw el t it (some c) own) ρ S = mk nw ((items.filter p).map g) S := by
  simp only [evE]
  rw [h1, Res.bind_ok, lcL_filterMap (g := fun d => if p d then some (g d) else none) hst, Res.nox_ok, Res.bind_ok]
  · congr 1
    clear h1 hst h2
    induction items with
    | nil => rfl
    | cons d ds ih =>
      rw [List.filterMap_cons, List.filter_cons]
      cases p d <;> simp [ih]
  · intro d hd
    obtain ⟨ρ2, e1, e2, e3⟩ := h2 d hd
    simp only [e1, evIf, e2, Res.bind_ok, toB]
    cases hp : p d with
    | false => simp
    | true => simp [e3 hp]
/-- all([..]) of what holds -/
theorem all_true {e : E} (h : evE Φ e ρ S = .ok (.lst (items.map fun _ => D.bl true)) S) : evE Φ (.bi .all false [e]) ρ S = .ok (.bl true) S := by
  have hb : bools (items.map fun _ => D.bl true) = some (items.map fun _ => true) := by
    rw [← bools_map, List.map_map]
    rfl
  simp only [evE, evEs, h, Res.bind_ok, biSem, lstOf, Option.bind_some, hb]
  simp
theorem in_sign {c : Nat} {y : Str} (h : c ∈ y.cps.toList) : cmpop .in_ (.str (sign c)) (.str y) S = .ok (.bl true) S := by
  show Res.ok (D.bl (decide (c ∈ y.cps.toList))) S = _
  rw [decide_eq_true h]
end
/-! ### steps -/
section
variable {Φ : Tab} {ρ ρ1 : Env} {S S1 : Store}
theorem and_all {es : List E} (h : ∀ e ∈ es, evE Φ e ρ S = .ok (.bl true) S) : evE Φ (.and_ es) ρ S = .ok (.bl true) S := by
  have z : evAnd Φ es ρ S = .ok true S := by
    induction es with
    | nil => simp only [evAnd]
    | cons e es ih =>
      simp only [evAnd, h e (List.mem_cons_self ..), Res.bind_ok, toB, if_true]
      exact ih fun e m => h e (List.mem_cons_of_mem _ m)
  simp only [evE, z, Res.bind_ok]
theorem or_none {es : List E} (h : ∀ e ∈ es, evE Φ e ρ S = .ok (.bl false) S) : evE Φ (.or_ es) ρ S = .ok (.bl false) S := by
  have z : evOr Φ es ρ S = .ok false S := by
    induction es with
    | nil => simp only [evOr]
    | cons e es ih =>
      simp only [evOr, h e (List.mem_cons_self ..), Res.bind_ok, toB, Bool.false_eq_true, if_false]
      exact ih fun e m => h e (List.mem_cons_of_mem _ m)
  simp only [evE, z, Res.bind_ok]
theorem cmp2_t {o1 o2 : Cop} {a b c : E} {x y z : D} (ha : evE Φ a ρ S = .ok x S) (hb : evE Φ b ρ S = .ok y S) (h1 : cmpop o1 x y S = .ok (.bl true) S) (hc : evE Φ c ρ S = .ok z S) (h2 : cmpop o2 y z S = .ok (.bl true) S) : evE Φ (.cmp2 o1 o2 a b c) ρ S = .ok (.bl true) S := by
  simp only [evE, ha, hb, h1, hc, h2, Res.bind_ok, toB, if_true]
theorem not_t {e : E} (h : evE Φ e ρ S = .ok (.bl true) S1) : evE Φ (.not_ e) ρ S = .ok (.bl false) S1 := by
  simp only [evE, h, Res.bind_ok, toB]
  rfl
theorem not_f {e : E} (h : evE Φ e ρ S = .ok (.bl false) S1) : evE Φ (.not_ e) ρ S = .ok (.bl true) S1 := by
  simp only [evE, h, Res.bind_ok, toB]
  rfl
theorem ite_f {t : E} {a b : List Cl.S} (h : evE Φ t ρ S = .ok (.bl false) S1) : evS Φ (.ite t a b) ρ S = evSs Φ b ρ S1 := by
  simp only [evS, h, Res.bind_ok, toB, Res.st_ok, Bool.false_eq_true, if_false]
theorem ite_t {t : E} {a b : List Cl.S} (h : evE Φ t ρ S = .ok (.bl true) S1) : evS Φ (.ite t a b) ρ S = evSs Φ a ρ S1 := by
  simp only [evS, h, Res.bind_ok, toB, Res.st_ok, if_true]
theorem asg_e {t : Tg} {e : E} {d : D} (h : evE Φ e ρ S = .ok d S1) (ha : asgT t d ρ = some ρ1) : evS Φ (.asg t e) ρ S = .ok (.nx ρ1) S1 := by
  simp only [evS, h, Res.st_ok, ha]
theorem expr_e {e : E} {d : D} (h : evE Φ e ρ S = .ok d S1) : evS Φ (.expr e) ρ S = .ok (.nx ρ) S1 := by
  simp only [evS, h, Res.st_ok]
theorem seq {s : Cl.S} {ss : List Cl.S} {r : Res Ctl} (h : evS Φ s ρ S = .ok (.nx ρ1) S1) (h2 : evSs Φ ss ρ1 S1 = r) : evSs Φ (s :: ss) ρ S = r := by
  simp only [evSs, h, Res.bind_ok]
  exact h2
theorem ret_e {e : E} {ss : List Cl.S} {d : D} (h : evE Φ e ρ S = .ok d S1) : evSs Φ (.ret e :: ss) ρ S = .ok (.rt d) S1 := by
  simp only [evSs, evS, h, Res.st_ok, Res.bind_ok]
theorem seq_rt {s : Cl.S} {ss : List Cl.S} {d : D} (h : evS Φ s ρ S = .ok (.rt d) S1) : evSs Φ (s :: ss) ρ S = .ok (.rt d) S1 := by
  simp only [evSs, h, Res.bind_ok]
theorem nil_e : evSs Φ [] ρ S = .ok (.nx ρ) S := by simp only [evSs]
/-- a def that leaves the cells as they are -/
theorem fn_same {n : Nat} {b : List Cl.S} {ds : List D} {d : D} (h : evSs Φ b (ds.map some ++ List.replicate (n - ds.length) none) S = .ok (.rt d) S) : evF Φ n b ds S = .ok d S := by
  simp only [evF, h, fin, trim_same]
theorem fn_none {n : Nat} {b : List Cl.S} {ds : List D} (h : evSs Φ b (ds.map some ++ List.replicate (n - ds.length) none) S = .ok (.nx ρ) S) : evF Φ n b ds S = .ok .non S := by
  simp only [evF, h, fin, trim_same]
/-- .. what it names is new -/
theorem fn_keep {n : Nat} {b : List Cl.S} {ds : List D} {d : D} (h : evSs Φ b (ds.map some ++ List.replicate (n - ds.length) none) S = .ok (.rt d) S1) (hd : ¬ bnd S.length d) : evF Φ n b ds S = .ok d S1 := by
  simp only [evF, h, fin, trim_keep hd]
/-- .. its own cells are forgotten -/
theorem fn_app {n : Nat} {b : List Cl.S} {ds : List D} {d : D} {l : Store} (h : evSs Φ b (ds.map some ++ List.replicate (n - ds.length) none) S = .ok (.rt d) (S ++ l)) (hd : bnd S.length d) : evF Φ n b ds S = .ok d S := by
  simp only [evF, h, fin, trim_app hd]
end
/-! ### texts -/
theorem str_assoc (a b c : Str) : a ++ b ++ c = a ++ (b ++ c) := by
  show (⟨a.cps ++ b.cps ++ c.cps⟩ : Str) = ⟨a.cps ++ (b.cps ++ c.cps)⟩
  rw [Array.append_assoc]
theorem str_nil (a : Str) : (⟨#[]⟩ : Str) ++ a = a := by
  show (⟨#[] ++ a.cps⟩ : Str) = a
  rw [Array.empty_append]
theorem str_nil_r (a : Str) : a ++ (⟨#[]⟩ : Str) = a := by
  show (⟨a.cps ++ #[]⟩ : Str) = a
  rw [Array.append_empty]
theorem str_length (a b : Str) : (a ++ b).length = a.length + b.length := by
  show (a.cps ++ b.cps).size = _
  rw [Array.size_append]
  rfl
def cat : List Str → Str
  | [] => ⟨#[]⟩
  | x :: xs => x ++ cat xs
theorem cat_length : ∀ xs : List Str, (cat xs).length = (xs.map Str.length).sum
  | [] => rfl
  | x :: xs => by rw [cat, str_length, cat_length xs]; rfl
section
variable {Φ : Tab} {ρ : Env} {S : Store}
/-- an f-string, or what its parts give -/
inductive Parts (Φ : Tab) (ρ : Env) (S : Store) : List E → List Str → Prop
  | nil : Parts Φ ρ S [] []
  | cons {e : E} {x : Str} {es : List E} {xs : List Str} (h : evE Φ e ρ S = .ok (.str x) S) (r : Parts Φ ρ S es xs) : Parts Φ ρ S (e :: es) (x :: xs)
theorem f1_cat {es : List E} {xs : List Str} (h : Parts Φ ρ S es xs) : ∀ {acc : Str}, acc.length + (xs.map Str.length).sum ≤ line → evF1 Φ es acc ρ S = .ok (acc ++ cat xs) S := by
  induction h with
  | nil =>
    intro acc _
    simp only [evF1, cat, str_nil_r]
  | @cons e x es xs h r ih =>
    intro acc hl
    simp only [List.map_cons, List.sum_cons] at hl
    simp only [evF1, h, Res.bind_ok]
    rw [if_pos (by omega), ih (by rw [str_length]; omega), cat, str_assoc]
theorem fs_e {es : List E} {xs : List Str} (h : Parts Φ ρ S es xs) (hl : (cat xs).length ≤ line) : evE Φ (.fs es) ρ S = .ok (.str (cat xs)) S := by
  simp only [evE]
  rw [f1_cat h (by rw [cat_length] at hl; show 0 + _ ≤ _; omega), str_nil]
  rfl
theorem fv_str {e : E} {x : Str} (h : evE Φ e ρ S = .ok (.str x) S) : evE Φ (.fv e) ρ S = .ok (.str x) S := by
  simp only [evE, h, Res.bind_ok, fmtD]
def num (i : Int) : Str := (toString i : String)
theorem fv_int {e : E} {i : Int} (h : evE Φ e ρ S = .ok (.int i) S) (hi : i.natAbs.log2 < 1920) : evE Φ (.fv e) ρ S = .ok (.str (num i)) S := by
  simp only [evE, h, Res.bind_ok, fmtD, if_pos hi]
  rfl
theorem add_strS {nw : Bool} {a b : E} {x y : Str} {S1 S2 : Store} (ha : evE Φ a ρ S = .ok (.str x) S1) (hb : evE Φ b ρ S1 = .ok (.str y) S2) (hl : (x ++ y).length ≤ line) : evE Φ (.bin .add nw a b) ρ S = .ok (.str (x ++ y)) S2 := by
  rw [str_length] at hl
  simp only [evE, ha, hb, Res.bind_ok, binop, if_pos hl]
theorem add_str {nw : Bool} {a b : E} {x y : Str} (ha : evE Φ a ρ S = .ok (.str x) S) (hb : evE Φ b ρ S = .ok (.str y) S) (hl : (x ++ y).length ≤ line) : evE Φ (.bin .add nw a b) ρ S = .ok (.str (x ++ y)) S := add_strS ha hb hl
theorem str_i {nw : Bool} {a : E} {i : Int} {S1 : Store} (ha : evE Φ a ρ S = .ok (.int i) S1) (h : i.natAbs.log2 < 1920) : evE Φ (.bi .str nw [a]) ρ S = .ok (.str (num i)) S1 := by
  simp only [evE, evEs, ha, Res.bind_ok, biSem, if_pos h]
  rfl
end
theorem join_len' (sep : Str) : ∀ ss : List Str, joinLen sep ss = (ss.map fun x => x.length).sum + ss.length * sep.length := fun _ => rfl

/-! ### cells -/
theorem s_get (S : Store) (c : Cell) : (S ++ [c])[S.length]? = some c := by simp
theorem s_set (S : Store) (c c' : Cell) : (S ++ [c]).set S.length c' = S ++ [c'] := by simp
theorem forL_map {α : Type} {J : Itr} {f : D → Env → Store → Res Ctl} (g : α → D) (all : List α) (P : List α → Env → Store → Prop) (hs : ∀ done ρ S, P done ρ S → J.st S) :
    ∀ {xs done : List α} {ρ : Env} {S : Store}, all = done ++ xs → P done ρ S → (∀ done x rest ρ S, all = done ++ x :: rest → P done ρ S → ∃ ρ' S', f (g x) ρ S = .ok (.nx ρ') S' ∧ P (done ++ [x]) ρ' S') →
      ∃ ρ' S', forL J f (xs.map g) ρ S = .ok (.nx ρ') S' ∧ P all ρ' S'
  | [], done, ρ, S, ha, h, _ => ⟨ρ, S, by rw [List.map_nil, forL, if_pos (hs _ _ _ h)], by rw [ha, List.append_nil]; exact h⟩
  | x :: xs, done, ρ, S, ha, h, step => by
    obtain ⟨ρ1, S1, e1, h1⟩ := step done x xs ρ S ha h
    obtain ⟨ρ2, S2, e2, h2⟩ := forL_map g all P hs (xs := xs) (by rw [ha]; simp) h1 step
    refine ⟨ρ2, S2, ?_, h2⟩
    rw [List.map_cons, forL, if_pos (hs _ _ _ h), e1, Res.bind_ok]
    exact e2
theorem lcL_mapA {α : Type} {J : Itr} {f : D → Store → Res (Option D)} (gd g : α → D) {S : Store} (hs : J.st S) : ∀ {xs : List α}, (∀ x ∈ xs, f (gd x) S = .ok (some (g x)) S) → lcL J f (xs.map gd) S = .ok (xs.map g) S
  | [], _ => by rw [List.map_nil, lcL, if_pos hs]; rfl
  | x :: xs, h => by
    rw [List.map_cons, lcL, if_pos hs, h x (List.mem_cons_self ..), Res.bind_ok, lcL_mapA gd g hs fun e m => h e (List.mem_cons_of_mem _ m)]
    rfl
section
variable {Φ : Tab} {nw : Bool} {el it c e : E} {t : Tg} {own : List Nat} {ρ ρ' : Env} {S S' : Store} {cl : Option (Nat × Cell)}
theorem lc_map {α : Type} {xs : List α} (gd g : α → D) (h1 : evIt Φ it ρ S = .ok ⟨xs.map gd, cl⟩ S) (hst : (⟨xs.map gd, cl⟩ : Itr).st S) (h2 : ∀ x ∈ xs, ∃ ρ2, asgT t (gd x) (wipe ρ own) = some ρ2 ∧ evE Φ el ρ2 S = .ok (g x) S) :
    evE Φ (.lc nw el t it none own) ρ S = mk nw (xs.map g) S := by
  simp only [evE]
  rw [h1, Res.bind_ok, lcL_mapA gd g hst, Res.nox_ok, Res.bind_ok]
  intro d hd
  obtain ⟨ρ2, e1, e2⟩ := h2 d hd
  simp only [e1, evIf, Res.bind_ok, if_true, e2]
theorem aug_lst {i n : Nat} {ds xs : List D} (h1 : ρ[i]? = some (some (.ref n))) (h2 : evE Φ e ρ S = .ok (.lst xs) S) (h3 : S[n]? = some (.lst ds)) (hl : ds.length + xs.length ≤ line) : evS Φ (.aug .add i e) ρ S = .ok (.nx (ρ.set i (some (.ref n)))) (S.set n (.lst (ds ++ xs))) := by
  simp only [evS, h1, h2, Res.st_ok, augop, h3, lstOf, if_pos hl]
theorem for_e {S0 : Store} {body : List Cl.S} {J : Itr} (h1 : evIt Φ it ρ S0 = .ok J S) (h2 : forL J (fun d ρ1 S2 => match asgT t d ρ1 with
      | none => .stuck
      | some ρ2 => evSs Φ body ρ2 S2) J.items ρ S = .ok (.nx ρ') S') : evS Φ (.for_ t it body) ρ S0 = .ok (.nx ρ') S' := by
  simp only [evS, h1, Res.st_ok]
  exact h2
theorem join_e {sep : Str} {o a : E} {x : D} {ds : List D} {ss : List Str} (ho : evE Φ o ρ S = .ok (.str sep) S) (ha : evE Φ a ρ S = .ok x S') (hx : seqOf S' x = some ds) (ht : txts ds = some ss) (hl : joinLen sep ss ≤ line) : evE Φ (.mt .join o [a]) ρ S = .ok (.str (Str.join sep ss)) S' := by
  simp only [evE, evEs, ho, ha, Res.bind_ok, mtTy, if_true, mtSem, hx, Option.bind_some, ht, if_pos hl]
theorem append_e {o a : E} {n : Nat} {x : D} {ds : List D} (ho : evE Φ o ρ S = .ok (.ref n) S) (ha : evE Φ a ρ S = .ok x S) (hn : S[n]? = some (.lst ds)) (hl : ds.length < line) : evE Φ (.mt .append o [a]) ρ S = .ok .non (S.set n (.lst (ds ++ [x]))) := by
  simp only [evE, evEs, ho, ha, Res.bind_ok, mtTy, hn, if_true, mtSem, if_pos hl]
end
section
variable {Φ : Tab} {ρ : Env} {S S1 : Store} {t a b : E}
theorem ife_t {d : D} (h : evE Φ t ρ S = .ok (.bl true) S) (h2 : evE Φ a ρ S = .ok d S1) : evE Φ (.ife t a b) ρ S = .ok d S1 := by
  simp only [evE, h, Res.bind_ok, toB, if_true, h2]
theorem ife_f {d : D} (h : evE Φ t ρ S = .ok (.bl false) S) (h2 : evE Φ b ρ S = .ok d S1) : evE Φ (.ife t a b) ρ S = .ok d S1 := by
  simp only [evE, h, Res.bind_ok, toB, Bool.false_eq_true, if_false, h2]
/-- a list in a cell and a list: a new cell -/
theorem add_lst {n : Nat} {xs ys : List D} (ha : evE Φ a ρ S = .ok (.ref n) S) (hb : evE Φ b ρ S = .ok (.lst ys) S) (hn : S[n]? = some (.lst xs)) (hl : xs.length + ys.length ≤ line) : evE Φ (.bin .add true a b) ρ S = .ok (.ref S.length) (S ++ [.lst (xs ++ ys)]) := by
  simp only [evE, ha, hb, Res.bind_ok, binop, lstOf, hn, if_pos hl, mk, if_true]
theorem eq_str_t {x : Str} (ha : evE Φ a ρ S = .ok (.str x) S) (hb : evE Φ b ρ S = .ok (.str x) S) : evE Φ (.cmp .eq a b) ρ S = .ok (.bl true) S := by
  simp only [evE]
  rw [ha, Res.bind_ok, hb, Res.bind_ok]
  show Res.ok (D.bl (x == x)) S = _
  rw [beq_self_eq_true]
theorem ne_str_f {x : Str} (ha : evE Φ a ρ S = .ok (.str x) S) (hb : evE Φ b ρ S = .ok (.str x) S) : evE Φ (.cmp .ne a b) ρ S = .ok (.bl false) S := by
  simp only [evE]
  rw [ha, Res.bind_ok, hb, Res.bind_ok]
  show Res.ok (D.bl (!(x == x))) S = _
  rw [beq_self_eq_true]
  rfl
end
theorem s_len (S : Store) (c : Cell) : (S ++ [c]).length = S.length + 1 := by simp
theorem cat_nil : cat [] = ⟨#[]⟩ := rfl
theorem cat_cons (x : Str) (xs : List Str) : cat (x :: xs) = x ++ cat xs := rfl
section
variable {Φ : Tab} {ρ : Env} {S S1 S2 S3 S4 : Store} {a b c d : E} {x y z u : D} {i j : Int} {nw : Bool}
theorem tup1 (ha : evE Φ a ρ S = .ok x S1) : evE Φ (.tup [a]) ρ S = .ok (.tup [x]) S1 := by simp only [evE, evEs, ha, Res.bind_ok]
theorem tup2 (ha : evE Φ a ρ S = .ok x S1) (hb : evE Φ b ρ S1 = .ok y S2) : evE Φ (.tup [a, b]) ρ S = .ok (.tup [x, y]) S2 := by simp only [evE, evEs, ha, hb, Res.bind_ok]
theorem tup3 (ha : evE Φ a ρ S = .ok x S1) (hb : evE Φ b ρ S1 = .ok y S2) (hc : evE Φ c ρ S2 = .ok z S3) : evE Φ (.tup [a, b, c]) ρ S = .ok (.tup [x, y, z]) S3 := by simp only [evE, evEs, ha, hb, hc, Res.bind_ok]
theorem tup4 (ha : evE Φ a ρ S = .ok x S1) (hb : evE Φ b ρ S1 = .ok y S2) (hc : evE Φ c ρ S2 = .ok z S3) (hd : evE Φ d ρ S3 = .ok u S4) : evE Φ (.tup [a, b, c, d]) ρ S = .ok (.tup [x, y, z, u]) S4 := by simp only [evE, evEs, ha, hb, hc, hd, Res.bind_ok]
theorem call1 {n : Nat} {f : Str} {ps : List Str} {F : Fn} {r : Res D} (hn : Φ[n]? = some (.fn f ps F)) (ha : evE Φ a ρ S = .ok x S1) (h : F [x] S1 = r) : evE Φ (.call n [a]) ρ S = r := by simp only [evE, evEs, ha, Res.bind_ok, callU, hn, h]
theorem call2 {n : Nat} {f : Str} {ps : List Str} {F : Fn} {r : Res D} (hn : Φ[n]? = some (.fn f ps F)) (ha : evE Φ a ρ S = .ok x S1) (hb : evE Φ b ρ S1 = .ok y S2) (h : F [x, y] S2 = r) : evE Φ (.call n [a, b]) ρ S = r := by simp only [evE, evEs, ha, hb, Res.bind_ok, callU, hn, h]
theorem call3 {n : Nat} {f : Str} {ps : List Str} {F : Fn} {r : Res D} (hn : Φ[n]? = some (.fn f ps F)) (ha : evE Φ a ρ S = .ok x S1) (hb : evE Φ b ρ S1 = .ok y S2) (hc : evE Φ c ρ S2 = .ok z S3) (h : F [x, y, z] S3 = r) : evE Φ (.call n [a, b, c]) ρ S = r := by simp only [evE, evEs, ha, hb, hc, Res.bind_ok, callU, hn, h]
theorem idx_e {r : Res D} (ha : evE Φ a ρ S = .ok x S1) (hb : evE Φ b ρ S1 = .ok y S2) (h : getitem x y S2 = r) : evE Φ (.idx a b) ρ S = r := by simp only [evE, ha, hb, Res.bind_ok, h]
/-! whole numbers -/
theorem add_i (ha : evE Φ a ρ S = .ok (.int i) S1) (hb : evE Φ b ρ S1 = .ok (.int j) S2) : evE Φ (.bin .add nw a b) ρ S = .ok (.int (i + j)) S2 := by simp only [evE, ha, hb, Res.bind_ok, binop]
theorem sub_i (ha : evE Φ a ρ S = .ok (.int i) S1) (hb : evE Φ b ρ S1 = .ok (.int j) S2) : evE Φ (.bin .sub nw a b) ρ S = .ok (.int (i - j)) S2 := by simp only [evE, ha, hb, Res.bind_ok, binop]
theorem mul_i (ha : evE Φ a ρ S = .ok (.int i) S1) (hb : evE Φ b ρ S1 = .ok (.int j) S2) (h : i.natAbs < 2 ^ 64 ∨ j.natAbs < 2 ^ 64) : evE Φ (.bin .mul nw a b) ρ S = .ok (.int (i * j)) S2 := by simp only [evE, ha, hb, Res.bind_ok, binop, if_pos h]
theorem mod_i (ha : evE Φ a ρ S = .ok (.int i) S1) (hb : evE Φ b ρ S1 = .ok (.int j) S2) (h : j ≠ 0) : evE Φ (.bin .mod nw a b) ρ S = .ok (.int (i.fmod j)) S2 := by simp only [evE, ha, hb, Res.bind_ok, binop, if_pos h]
theorem fdiv_i (ha : evE Φ a ρ S = .ok (.int i) S1) (hb : evE Φ b ρ S1 = .ok (.int j) S2) (h : j ≠ 0 ∧ j.natAbs < 1073741824) : evE Φ (.bin .fdiv nw a b) ρ S = .ok (.int (i.fdiv j)) S2 := by simp only [evE, ha, hb, Res.bind_ok, binop, if_pos h]
theorem int_i (ha : evE Φ a ρ S = .ok (.int i) S1) : evE Φ (.bi .int nw [a]) ρ S = .ok (.int i) S1 := by simp only [evE, evEs, ha, Res.bind_ok, biSem]
theorem max_i (ha : evE Φ a ρ S = .ok (.int i) S1) (hb : evE Φ b ρ S1 = .ok (.int j) S2) : evE Φ (.bi .max2 nw [a, b]) ρ S = .ok (.int (if j > i then j else i)) S2 := by simp only [evE, evEs, ha, hb, Res.bind_ok, biSem]
theorem eq_i (ha : evE Φ a ρ S = .ok (.int i) S1) (hb : evE Φ b ρ S1 = .ok (.int j) S2) : evE Φ (.cmp .eq a b) ρ S = .ok (.bl (i == j)) S2 := by
  simp only [evE]
  rw [ha, Res.bind_ok, hb, Res.bind_ok]
  rfl
theorem ge_i (ha : evE Φ a ρ S = .ok (.int i) S1) (hb : evE Φ b ρ S1 = .ok (.int j) S2) : evE Φ (.cmp .ge a b) ρ S = .ok (.bl (decide (j ≤ i))) S2 := by
  simp only [evE]
  rw [ha, Res.bind_ok, hb, Res.bind_ok]
  rfl
theorem gt_i (ha : evE Φ a ρ S = .ok (.int i) S1) (hb : evE Φ b ρ S1 = .ok (.int j) S2) : evE Φ (.cmp .gt a b) ρ S = .ok (.bl (decide (j < i))) S2 := by
  simp only [evE]
  rw [ha, Res.bind_ok, hb, Res.bind_ok]
  rfl
/-- a test that is told by its value -/
theorem ite_b {t : E} {l r : List Cl.S} {q : Bool} (h : evE Φ t ρ S = .ok (.bl q) S1) : evS Φ (.ite t l r) ρ S = if q then evSs Φ l ρ S1 else evSs Φ r ρ S1 := by
  simp only [evS, h, Res.bind_ok, toB, Res.st_ok]
end
theorem fmod_in {i j : Int} (h : 0 < j) : 0 ≤ i.fmod j ∧ i.fmod j < j := ⟨Int.fmod_nonneg_of_pos i h, Int.fmod_lt_of_pos i h⟩
theorem fits_ints (n : Nat) (l : List Int) : fits n (l.map D.int) = true := by
  rw [fits_all, List.all_map, List.all_eq_true]
  intro x _
  cases n <;> rfl
/-- a def that changes the first cells and forgets its own -/
theorem fn_mod {Φ : Tab} {S S2 l : Store} {n : Nat} {b : List Cl.S} {ds : List D} {d : D} (h : evSs Φ b (ds.map some ++ List.replicate (n - ds.length) none) S = .ok (.rt d) (S2 ++ l)) (hl : S2.length = S.length) (hd : bnd S.length d)
    (hc : ∀ i, i < S.length → S2[i]? = S[i]? ∨ ∃ c, S2[i]? = some c ∧ cbnd S.length c) : evF Φ n b ds S = .ok d S2 := by
  simp only [evF, h, fin, trim_mod hl hd hc]
end Cl

set_option linter.all false
set_option autoImplicit false
set_option maxRecDepth 100000
/-! law_k02_texts_of_plans: the defs as Cl has them. -/
namespace K02
open PySem (Str)
open Cl
def k_ENDS : D := (.cdc ["plain", "points", "crossing"] [(.int 2), (.int 3), (.int 4)])
def k_GATE : D := (.str "gate")
def k_JOIN : D := (.str "join")
def k_LETTERS : D := (.str "abcdefghijklmnopqrstuvwxyz")
def k_MOST_SIGNS : D := (.int 8)
def k_OVER : D := (.str "over")
def k_SIGNAL : D := (.str "signal")
def k_SIGNS : D := (.str "abcdefghijklmnopqrstuvwxyz0123456789")
def k_STRETCH : D := (.str "stretch")

/-! ### is_whole -/
def n_is_whole : List Str := ["thing"]
def b_is_whole : List S :=
    [.ret (.and_ [(.isi (.var 0) .int), (.not_ (.isi (.var 0) .bool))])]
noncomputable def T_is_whole : Tab := [.free "isinstance", .free "int", .free "bool"]
noncomputable def F_is_whole : Fn := evF T_is_whole 1 b_is_whole

/-! ### is_name -/
def n_is_name : List Str := ["thing", "sign"]
def b_is_name : List S :=
    [.ite (.or_ [(.not_ (.isi (.var 0) .str)), (.not_ (.cmp2 .le .le (.lit (.int 1)) (.bi .len false [(.var 0)]) (.glo 3)))])
    [.ret (.lit (.bl false))]
    [],
    .ret (.and_ [(.cmp .in_ (.idx (.var 0) (.lit (.int 0))) (.glo 4)), (.bi .all false [(.lc false (.cmp .in_ (.var 1) (.glo 6)) (.nm 1) (.walk (.var 0)) none [1])])])]
noncomputable def T_is_name : Tab := [.free "isinstance", .free "str", .free "len", .con "MOST_SIGNS" k_MOST_SIGNS, .con "LETTERS" k_LETTERS, .free "all", .con "SIGNS" k_SIGNS]
noncomputable def F_is_name : Fn := evF T_is_name 2 b_is_name

/-! ### is_end_number -/
def n_is_end_number : List Str := ["thing"]
def b_is_end_number : List S :=
    [.ret (.and_ [(.call 0 [(.var 0)]), (.cmp2 .le .le (.lit (.int 0)) (.var 0) (.lit (.int 3)))])]
noncomputable def T_is_end_number : Tab := [.fn "is_whole" ["thing"] F_is_whole]
noncomputable def F_is_end_number : Fn := evF T_is_end_number 1 b_is_end_number

/-! ### is_end_form -/
def n_is_end_form : List Str := ["thing"]
def b_is_end_form : List S :=
    [.ret (.and_ [(.isi (.var 0) .tuple), (.cmp .eq (.bi .len false [(.var 0)]) (.lit (.int 2))), (.call 3 [(.idx (.var 0) (.lit (.int 0)))]), (.call 4 [(.idx (.var 0) (.lit (.int 1)))])])]
noncomputable def T_is_end_form : Tab := [.free "isinstance", .free "tuple", .free "len", .fn "is_name" ["thing"] F_is_name, .fn "is_end_number" ["thing"] F_is_end_number]
noncomputable def F_is_end_form : Fn := evF T_is_end_form 1 b_is_end_form

/-! ### is_step_form -/
def n_is_step_form : List Str := ["thing"]
def b_is_step_form : List S :=
    [.ite (.or_ [(.not_ (.isi (.var 0) .tuple)), (.cmp .ne (.bi .len false [(.var 0)]) (.lit (.int 3)))])
    [.ret (.lit (.bl false))]
    [],
    .ret (.and_ [(.call 3 [(.idx (.var 0) (.lit (.int 0)))]), (.call 4 [(.idx (.var 0) (.lit (.int 1)))]), (.call 4 [(.idx (.var 0) (.lit (.int 2)))])])]
noncomputable def T_is_step_form : Tab := [.free "isinstance", .free "tuple", .free "len", .fn "is_name" ["thing"] F_is_name, .fn "is_end_number" ["thing"] F_is_end_number]
noncomputable def F_is_step_form : Fn := evF T_is_step_form 1 b_is_step_form

/-! ### is_stretch -/
def n_is_stretch : List Str := ["thing"]
def b_is_stretch : List S :=
    [.ite (.or_ [(.not_ (.isi (.var 0) .tuple)), (.cmp .ne (.bi .len false [(.var 0)]) (.lit (.int 2))), (.not_ (.call 3 [(.idx (.var 0) (.lit (.int 0)))]))])
    [.ret (.lit (.bl false))]
    [],
    .ret (.and_ [(.isi (.idx (.var 0) (.lit (.int 1))) .str), (.cmp .in_ (.idx (.var 0) (.lit (.int 1))) (.glo 5))])]
noncomputable def T_is_stretch : Tab := [.free "isinstance", .free "tuple", .free "len", .fn "is_name" ["thing"] F_is_name, .free "str", .con "ENDS" k_ENDS]
noncomputable def F_is_stretch : Fn := evF T_is_stretch 1 b_is_stretch

/-! ### is_joint -/
def n_is_joint : List Str := ["thing"]
def b_is_joint : List S :=
    [.ret (.and_ [(.isi (.var 0) .tuple), (.cmp .eq (.bi .len false [(.var 0)]) (.lit (.int 2))), (.call 3 [(.idx (.var 0) (.lit (.int 0)))]), (.call 3 [(.idx (.var 0) (.lit (.int 1)))])])]
noncomputable def T_is_joint : Tab := [.free "isinstance", .free "tuple", .free "len", .fn "is_end_form" ["thing"] F_is_end_form]
noncomputable def F_is_joint : Fn := evF T_is_joint 1 b_is_joint

/-! ### is_gate -/
def n_is_gate : List Str := ["thing"]
def b_is_gate : List S :=
    [.ret (.and_ [(.isi (.var 0) .tuple), (.cmp .eq (.bi .len false [(.var 0)]) (.lit (.int 2))), (.call 3 [(.idx (.var 0) (.lit (.int 0)))]), (.call 4 [(.idx (.var 0) (.lit (.int 1)))])])]
noncomputable def T_is_gate : Tab := [.free "isinstance", .free "tuple", .free "len", .fn "is_name" ["thing"] F_is_name, .fn "is_end_form" ["thing"] F_is_end_form]
noncomputable def F_is_gate : Fn := evF T_is_gate 1 b_is_gate

/-! ### is_signal -/
def n_is_signal : List Str := ["thing", "overlap", "step"]
def b_is_signal : List S :=
    [.ite (.or_ [(.not_ (.isi (.var 0) .tuple)), (.cmp .ne (.bi .len false [(.var 0)]) (.lit (.int 3))), (.not_ (.call 3 [(.idx (.var 0) (.lit (.int 0)))])), (.not_ (.call 4 [(.idx (.var 0) (.lit (.int 1)))]))])
    [.ret (.lit (.bl false))]
    [],
    .asg (.nm 1) (.idx (.var 0) (.lit (.int 2))),
    .ret (.and_ [(.isi (.var 1) .tuple), (.cmp .le (.bi .len false [(.var 1)]) (.lit (.int 1))), (.bi .all false [(.lc false (.call 6 [(.var 2)]) (.nm 2) (.walk (.var 1)) none [2])])])]
noncomputable def T_is_signal : Tab := [.free "isinstance", .free "tuple", .free "len", .fn "is_name" ["thing"] F_is_name, .fn "is_end_form" ["thing"] F_is_end_form, .free "all", .fn "is_step_form" ["thing"] F_is_step_form]
noncomputable def F_is_signal : Fn := evF T_is_signal 3 b_is_signal

/-! ### is_plan_value -/
def n_is_plan_value : List Str := ["thing", "stretches", "joints", "gates", "signals", "item", "part"]
def b_is_plan_value : List S :=
    [.ite (.or_ [(.not_ (.isi (.var 0) .tuple)), (.cmp .ne (.bi .len false [(.var 0)]) (.lit (.int 4))), (.not_ (.bi .all false [(.lc false (.isi (.var 6) .tuple) (.nm 6) (.walk (.var 0)) none [6])]))])
    [.ret (.lit (.bl false))]
    [],
    .asg (.tp [(.nm 1), (.nm 2), (.nm 3), (.nm 4)]) (.var 0),
    .ite (.or_ [(.not_ (.bi .all false [(.lc false (.call 4 [(.var 5)]) (.nm 5) (.walk (.var 1)) none [5])])), (.not_ (.bi .all false [(.lc false (.call 5 [(.var 5)]) (.nm 5) (.walk (.var 2)) none [5])]))])
    [.ret (.lit (.bl false))]
    [],
    .ret (.and_ [(.bi .all false [(.lc false (.call 6 [(.var 5)]) (.nm 5) (.walk (.var 3)) none [5])]), (.bi .all false [(.lc false (.call 7 [(.var 5)]) (.nm 5) (.walk (.var 4)) none [5])])])]
noncomputable def T_is_plan_value : Tab := [.free "isinstance", .free "tuple", .free "len", .free "all", .fn "is_stretch" ["thing"] F_is_stretch, .fn "is_joint" ["thing"] F_is_joint, .fn "is_gate" ["thing"] F_is_gate, .fn "is_signal" ["thing"] F_is_signal]
noncomputable def F_is_plan_value : Fn := evF T_is_plan_value 7 b_is_plan_value

/-! ### need_plan -/
def n_need_plan : List Str := ["thing"]
def b_need_plan : List S :=
    [.ite (.not_ (.call 0 [(.var 0)]))
    [.never]
    []]
noncomputable def T_need_plan : Tab := [.fn "is_plan_value" ["thing"] F_is_plan_value]
noncomputable def F_need_plan : Fn := evF T_need_plan 1 b_need_plan

/-! ### end_text -/
def n_end_text : List Str := ["end"]
def b_end_text : List S :=
    [.ret (.fs [(.fv (.idx (.var 0) (.lit (.int 0)))), (.lit (.str " ")), (.fv (.idx (.var 0) (.lit (.int 1))))])]
noncomputable def T_end_text : Tab := []
noncomputable def F_end_text : Fn := evF T_end_text 1 b_end_text

/-! ### plan_text -/
def n_plan_text : List Str := ["plan", "rows", "name", "end", "overlap", "further", "kind", "one", "other", "step"]
def b_plan_text : List S :=
    [.expr (.call 0 [(.var 0)]),
    .asg (.nm 1) (.lc true (.fs [(.fv (.glo 1)), (.lit (.str " ")), (.fv (.var 2)), (.lit (.str " ")), (.fv (.var 6))]) (.tp [(.nm 2), (.nm 6)]) (.walk (.idx (.var 0) (.lit (.int 0)))) none [2, 6]),
    .aug .add 1 (.lc false (.fs [(.fv (.glo 2)), (.lit (.str " ")), (.fv (.call 3 [(.var 7)])), (.lit (.str " ")), (.fv (.call 3 [(.var 8)]))]) (.tp [(.nm 7), (.nm 8)]) (.walk (.idx (.var 0) (.lit (.int 1)))) none [7, 8]),
    .aug .add 1 (.lc false (.fs [(.fv (.glo 4)), (.lit (.str " ")), (.fv (.var 2)), (.lit (.str " ")), (.fv (.call 3 [(.var 3)]))]) (.tp [(.nm 2), (.nm 3)]) (.walk (.idx (.var 0) (.lit (.int 2)))) none [2, 3]),
    .for_ (.tp [(.nm 2), (.nm 3), (.nm 4)]) (.walk (.idx (.var 0) (.lit (.int 3))))
    [.asg (.nm 5) (.lc false (.fs [(.lit (.str " ")), (.fv (.glo 5)), (.lit (.str " ")), (.fv (.idx (.var 9) (.lit (.int 0)))), (.lit (.str " ")), (.fv (.idx (.var 9) (.lit (.int 1)))), (.lit (.str " ")), (.fv (.idx (.var 9) (.lit (.int 2))))]) (.nm 9) (.walk (.var 4)) none [9]),
    .expr (.mt .append (.var 1) [(.bin .add false (.fs [(.fv (.glo 6)), (.lit (.str " ")), (.fv (.var 2)), (.lit (.str " ")), (.fv (.call 3 [(.var 3)]))]) (.mt .join (.lit (.str "")) [(.var 5)]))])],
    .ret (.mt .join (.lit (.str "\n")) [(.var 1)])]
noncomputable def T_plan_text : Tab := [.fn "need_plan" ["thing"] F_need_plan, .con "STRETCH" k_STRETCH, .con "JOIN" k_JOIN, .fn "end_text" ["end"] F_end_text, .con "GATE" k_GATE, .con "OVER" k_OVER, .con "SIGNAL" k_SIGNAL]
noncomputable def F_plan_text : Fn := evF T_plan_text 10 b_plan_text

/-! ### _law_deck -/
def n__law_deck : List Str := ["script", "mixed", "cell"]
def b__law_deck : List S :=
    [.asg (.nm 1) (.lit (.int 13747202)),
    .for_ (.nm 2) (.walk (.sl false (.var 0) none (some (.lit (.int 63)))))
    [.asg (.nm 1) (.bin .mod false (.bi .int false [(.bin .add false (.bin .add false (.bin .mul false (.var 1) (.lit (.int 48271))) (.bin .mod false (.bi .int false [(.var 2)]) (.lit (.int 2147483629)))) (.lit (.int 67)))]) (.lit (.int 2147483587)))],
    .ret (.dic true [(.lit (.str "cells")), (.rev true (.bi .list false [(.sl false (.var 0) none (some (.lit (.int 63))))])), (.lit (.str "mixed")), (.var 1), (.lit (.str "draws")), (.lit (.int 0))])]
noncomputable def T__law_deck : Tab := [.free "int", .free "list"]
noncomputable def F__law_deck : Fn := evF T__law_deck 3 b__law_deck

/-! ### _law_draw -/
def n__law_draw : List Str := ["deck", "many", "number", "cell"]
def b__law_draw : List S :=
    [.sub (.var 0) (.lit (.str "draws")) (.bin .add true (.idx (.var 0) (.lit (.str "draws"))) (.lit (.int 1))),
    .asg (.nm 2) (.bin .add false (.idx (.var 0) (.lit (.str "mixed"))) (.bin .mul false (.lit (.int 61473)) (.idx (.var 0) (.lit (.str "draws"))))),
    .ite (.cmp .ne (.idx (.var 0) (.lit (.str "cells"))) (.lst false []))
    [.asg (.nm 3) (.mt .pop (.idx (.var 0) (.lit (.str "cells"))) []),
    .ite (.cmp .ge (.var 3) (.bin .pow false (.lit (.int 10)) (.lit (.int 18))))
    [.expr (.mt .append (.idx (.var 0) (.lit (.str "cells"))) [(.bin .fdiv false (.var 3) (.bi .max2 false [(.lit (.int 2)), (.var 1)]))]),
    .ret (.bin .mod false (.bi .int false [(.var 3)]) (.var 1))]
    [],
    .asg (.nm 2) (.bin .add false (.var 2) (.bin .mod false (.bi .int false [(.var 3)]) (.lit (.int 2147483629))))]
    [],
    .asg (.nm 2) (.bin .mod false (.bi .int false [(.bin .add false (.bin .mul false (.var 2) (.lit (.int 39373))) (.lit (.int 67)))]) (.lit (.int 2147483647))),
    .asg (.nm 2) (.bin .mod false (.bi .int false [(.bin .add false (.bin .add false (.bin .mul false (.var 2) (.var 2)) (.bin .mul false (.lit (.int 52713)) (.idx (.var 0) (.lit (.str "draws"))))) (.lit (.int 29)))]) (.lit (.int 2147483587))),
    .asg (.nm 2) (.bin .mod false (.bi .int false [(.bin .mul false (.var 2) (.lit (.int 40692)))]) (.lit (.int 2147483563))),
    .ret (.bin .mod false (.bi .int false [(.bin .fdiv false (.var 2) (.lit (.int 64)))]) (.var 1))]
noncomputable def T__law_draw : Tab := [.free "max", .free "int"]
noncomputable def F__law_draw : Fn := evF T__law_draw 4 b__law_draw

/-! ### _law_pick -/
def n__law_pick : List Str := ["deck", "some"]
def b__law_pick : List S :=
    [.ret (.idx (.var 1) (.call 0 [(.var 0), (.bi .len false [(.var 1)])]))]
noncomputable def T__law_pick : Tab := [.fn "_law_draw" ["deck", "many"] F__law_draw, .free "len"]
noncomputable def F__law_pick : Fn := evF T__law_pick 2 b__law_pick

/-! ### _law_name -/
def n__law_name : List Str := ["deck", "used", "letters", "way", "name", "some", "at", "spare"]
def b__law_name : List S :=
    [.asg (.nm 2) (.lit (.str "abcdefghijklmnopqrstuvwxyz0123456789")),
    .asg (.tp [(.nm 3), (.nm 4)]) (.tup [(.call 0 [(.var 0), (.lit (.int 5))]), (.idx (.var 2) (.call 0 [(.var 0), (.lit (.int 26))]))]),
    .ite (.cmp .eq (.var 3) (.lit (.int 0)))
    [.asg (.nm 5) (.lst false [(.lit (.str "plain")), (.lit (.str "points")), (.lit (.str "crossing")), (.lit (.str "over")), (.lit (.str "stretch")), (.lit (.str "join")), (.lit (.str "gate")), (.lit (.str "signal")), (.lit (.str "left")), (.lit (.str "right"))]),
    .asg (.nm 4) (.call 1 [(.var 0), (.var 5)])]
    [.ite (.cmp .eq (.var 3) (.lit (.int 1)))
    [.asg (.nm 6) (.call 0 [(.var 0), (.lit (.int 8))]),
    .asg (.nm 4) (.bin .add false (.ife (.cmp .gt (.var 6) (.lit (.int 0))) (.bin .add false (.sl false (.lit (.str "mainline")) none (some (.var 6))) (.idx (.var 2) (.call 0 [(.var 0), (.lit (.int 36))]))) (.var 4)) (.sl false (.lit (.str "mainline")) (some (.bin .add false (.var 6) (.lit (.int 1)))) none))]
    [.asg (.nm 4) (.bin .add false (.var 4) (.mt .join (.lit (.str "")) [(.lc false (.idx (.var 2) (.call 0 [(.var 0), (.lit (.int 36))])) (.nm 6) (.rng1 (.call 0 [(.var 0), (.lit (.int 8))])) none [6])]))]],
    .ite (.cmp .in_ (.var 4) (.var 1))
    [.asg (.nm 4) (.idx (.lc false (.var 7) (.nm 7) (.walk (.lc false (.bin .add false (.lit (.str "x")) (.bi .str false [(.var 6)])) (.nm 6) (.rng1 (.lit (.int 60))) none [6])) (some (.cmp .notin (.var 7) (.var 1))) [7]) (.lit (.int 0)))]
    [],
    .expr (.mt .append (.var 1) [(.var 4)]),
    .ret (.var 4)]
noncomputable def T__law_name : Tab := [.fn "_law_draw" ["deck", "many"] F__law_draw, .fn "_law_pick" ["deck", "some"] F__law_pick, .free "range", .free "str"]
noncomputable def F__law_name : Fn := evF T__law_name 8 b__law_name

/-! ### _law_joints -/
def n__law_joints : List Str := ["deck", "free", "joined", "joints", "turn", "one", "others", "other", "end"]
def b__law_joints : List S :=
    [.asg (.nm 3) (.lst true []),
    .for_ (.nm 4) (.rng1 (.call 1 [(.var 0), (.lit (.int 17))]))
    [.asg (.nm 5) (.ife (.cmp .ne (.var 1) (.lst false [])) (.call 2 [(.var 0), (.var 1)]) (.tup [(.lit (.str "")), (.lit (.int 0))])),
    .asg (.nm 6) (.lc false (.var 8) (.nm 8) (.walk (.var 1)) (some (.cmp .ne (.idx (.var 8) (.lit (.int 0))) (.idx (.var 5) (.lit (.int 0))))) [8]),
    .ite (.and_ [(.cmp .ne (.var 6) (.lst false [])), (.cmp .ne (.var 1) (.lst false []))])
    [.asg (.nm 7) (.call 2 [(.var 0), (.var 6)]),
    .expr (.mt .append (.var 3) [(.tup [(.var 5), (.var 7)])]),
    .sub (.var 2) (.var 5) (.var 7),
    .sub (.var 2) (.var 7) (.var 5),
    .expr (.mt .remove (.var 1) [(.var 5)]),
    .expr (.mt .remove (.var 1) [(.var 7)])]
    []],
    .ret (.var 3)]
noncomputable def T__law_joints : Tab := [.free "range", .fn "_law_draw" ["deck", "many"] F__law_draw, .fn "_law_pick" ["deck", "some"] F__law_pick]
noncomputable def F__law_joints : Fn := evF T__law_joints 9 b__law_joints

/-! ### _law_over -/
def n__law_over : List Str := ["deck", "kinds", "end", "name", "one"]
def b__law_over : List S :=
    [.asg (.tp [(.nm 3), (.nm 4)]) (.var 2),
    .ite (.or_ [(.cmp .eq (.call 0 [(.var 0), (.lit (.int 2))]) (.lit (.int 0))), (.cmp .eq (.idx (.var 1) (.var 3)) (.lit (.str "points")))])
    [.ret (.tup [])]
    [],
    .ret (.tup [(.tup [(.var 3), (.var 4), (.ife (.cmp .eq (.idx (.var 1) (.var 3)) (.lit (.str "plain"))) (.bin .sub false (.lit (.int 1)) (.var 4)) (.bin .xor false (.var 4) (.lit (.int 1))))])])]
noncomputable def T__law_over : Tab := [.fn "_law_draw" ["deck", "many"] F__law_draw]
noncomputable def F__law_over : Fn := evF T__law_over 5 b__law_over

/-! ### _law_checked -/
def n__law_checked : List Str := ["deck", "used", "most", "turn", "joints", "free", "many", "kinds", "joined", "stretches", "gates", "signals", "kind", "name", "end"]
def b__law_checked : List S :=
    [.asg (.tp [(.nm 6), (.nm 7), (.nm 5), (.nm 8)]) (.tup [(.dic false [(.lit (.str "plain")), (.lit (.int 2)), (.lit (.str "points")), (.lit (.int 3)), (.lit (.str "crossing")), (.lit (.int 4))]), (.dic true []), (.lst true []), .dict0]),
    .asg (.tp [(.nm 9), (.nm 10), (.nm 11)]) (.tup [(.lst true []), (.lst true []), (.lst true [])]),
    .for_ (.nm 3) (.rng1 (.call 1 [(.var 0), (.bin .add false (.var 2) (.lit (.int 1)))]))
    [.asg (.nm 12) (.call 2 [(.var 0), (.lst false [(.lit (.str "plain")), (.lit (.str "plain")), (.lit (.str "plain")), (.lit (.str "points")), (.lit (.str "points")), (.lit (.str "crossing"))])]),
    .asg (.nm 13) (.call 3 [(.var 0), (.var 1)]),
    .expr (.mt .append (.var 9) [(.tup [(.var 13), (.var 12)])]),
    .sub (.var 7) (.var 13) (.var 12),
    .asg (.nm 5) (.bin .add true (.var 5) (.lc false (.tup [(.var 13), (.var 14)]) (.nm 14) (.rng1 (.idx (.var 6) (.var 12))) none [14]))],
    .asg (.nm 4) (.call 4 [(.var 0), (.var 5), (.var 8)]),
    .asg (.nm 5) (.lc true (.var 14) (.nm 14) (.walk (.var 5)) (some (.cmp .eq (.idx (.var 7) (.idx (.var 14) (.lit (.int 0)))) (.lit (.str "plain")))) [14]),
    .for_ (.nm 3) (.rng1 (.call 1 [(.var 0), (.lit (.int 5))]))
    [.ite (.cmp .ne (.var 5) (.lst false []))
    [.expr (.mt .append (.var 10) [(.tup [(.call 3 [(.var 0), (.var 1)]), (.mt .popAt (.var 5) [(.call 1 [(.var 0), (.bi .len false [(.var 5)])])])])])]
    []],
    .asg (.nm 5) (.lcd true (.var 14) (.nm 14) 8 (some (.cmp .eq (.idx (.var 7) (.idx (.var 14) (.lit (.int 0)))) (.lit (.str "plain")))) [14]),
    .for_ (.nm 3) (.rng1 (.call 1 [(.var 0), (.lit (.int 11))]))
    [.ite (.cmp .ne (.var 5) (.lst false []))
    [.asg (.nm 14) (.mt .popAt (.var 5) [(.call 1 [(.var 0), (.bi .len false [(.var 5)])])]),
    .expr (.mt .append (.var 11) [(.tup [(.call 3 [(.var 0), (.var 1)]), (.var 14), (.call 6 [(.var 0), (.var 7), (.idx (.var 8) (.var 14))])])])]
    []],
    .ret (.tup [(.bi .tuple false [(.var 9)]), (.bi .tuple false [(.var 4)]), (.bi .tuple false [(.var 10)]), (.bi .tuple false [(.var 11)])])]
noncomputable def T__law_checked : Tab := [.free "range", .fn "_law_draw" ["deck", "many"] F__law_draw, .fn "_law_pick" ["deck", "some"] F__law_pick, .fn "_law_name" ["deck", "used"] F__law_name, .fn "_law_joints" ["deck", "free", "joined"] F__law_joints, .free "len", .fn "_law_over" ["deck", "kinds", "end"] F__law_over, .free "tuple"]
noncomputable def F__law_checked : Fn := evF T__law_checked 15 b__law_checked

/-! ### _law_free -/
def n__law_free : List Str := ["deck", "used", "turn", "ends", "stretches", "joints", "gates", "signals", "many", "kinds", "step"]
def b__law_free : List S :=
    [.asg (.nm 1) (.lst true [(.lit (.str "a")), (.lit (.str "b")), (.lit (.str "points"))]),
    .for_ (.nm 2) (.rng1 (.call 1 [(.var 0), (.lit (.int 12))]))
    [.expr (.call 2 [(.var 0), (.var 1)])],
    .asg (.nm 3) (.lc false (.tup [(.call 3 [(.var 0), (.var 1)]), (.call 1 [(.var 0), (.lit (.int 4))])]) (.nm 2) (.rng1 (.lit (.int 20))) none [2]),
    .asg (.tp [(.nm 8), (.nm 9)]) (.tup [(.call 1 [(.var 0), (.lit (.int 13))]), (.lst false [(.lit (.str "plain")), (.lit (.str "points")), (.lit (.str "crossing"))])]),
    .asg (.nm 4) (.lc false (.tup [(.call 3 [(.var 0), (.var 1)]), (.call 3 [(.var 0), (.var 9)])]) (.nm 2) (.rng1 (.var 8)) none [2]),
    .asg (.nm 5) (.lc false (.tup [(.call 3 [(.var 0), (.var 3)]), (.call 3 [(.var 0), (.var 3)])]) (.nm 2) (.rng1 (.call 1 [(.var 0), (.lit (.int 17))])) none [2]),
    .asg (.nm 6) (.lc false (.tup [(.call 3 [(.var 0), (.var 1)]), (.call 3 [(.var 0), (.var 3)])]) (.nm 2) (.rng1 (.call 1 [(.var 0), (.lit (.int 5))])) none [2]),
    .asg (.nm 7) (.lst true []),
    .for_ (.nm 2) (.rng1 (.call 1 [(.var 0), (.lit (.int 11))]))
    [.asg (.nm 10) (.bin .add false (.call 3 [(.var 0), (.var 3)]) (.tup [(.call 1 [(.var 0), (.lit (.int 4))])])),
    .expr (.mt .append (.var 7) [(.tup [(.call 3 [(.var 0), (.var 1)]), (.call 3 [(.var 0), (.var 3)]), (.ife (.cmp .eq (.call 1 [(.var 0), (.lit (.int 2))]) (.lit (.int 0))) (.tup [(.var 10)]) (.tup []))])])],
    .ret (.tup [(.bi .tuple false [(.var 4)]), (.bi .tuple false [(.var 5)]), (.bi .tuple false [(.var 6)]), (.bi .tuple false [(.var 7)])])]
noncomputable def T__law_free : Tab := [.free "range", .fn "_law_draw" ["deck", "many"] F__law_draw, .fn "_law_name" ["deck", "used"] F__law_name, .fn "_law_pick" ["deck", "some"] F__law_pick, .free "tuple"]
noncomputable def F__law_free : Fn := evF T__law_free 11 b__law_free

/-! ### _law_lines -/
def n__law_lines : List Str := ["plan", "found", "name", "end", "overlap", "over", "kind", "one", "other"]
def b__law_lines : List S :=
    [.asg (.nm 1) (.lc true (.bin .add false (.bin .add false (.bin .add false (.lit (.str "stretch ")) (.var 2)) (.lit (.str " "))) (.var 6)) (.tp [(.nm 2), (.nm 6)]) (.walk (.idx (.var 0) (.lit (.int 0)))) none [2, 6]),
    .asg (.nm 1) (.bin .add true (.var 1) (.lc false (.fs [(.lit (.str "join ")), (.fv (.idx (.var 7) (.lit (.int 0)))), (.lit (.str " ")), (.fv (.idx (.var 7) (.lit (.int 1)))), (.lit (.str " ")), (.fv (.idx (.var 8) (.lit (.int 0)))), (.lit (.str " ")), (.fv (.idx (.var 8) (.lit (.int 1))))]) (.tp [(.nm 7), (.nm 8)]) (.walk (.idx (.var 0) (.lit (.int 1)))) none [7, 8])),
    .asg (.nm 1) (.bin .add true (.var 1) (.lc false (.fs [(.lit (.str "gate ")), (.fv (.var 2)), (.lit (.str " ")), (.fv (.idx (.var 3) (.lit (.int 0)))), (.lit (.str " ")), (.fv (.idx (.var 3) (.lit (.int 1))))]) (.tp [(.nm 2), (.nm 3)]) (.walk (.idx (.var 0) (.lit (.int 2)))) none [2, 3])),
    .for_ (.tp [(.nm 2), (.nm 3), (.nm 4)]) (.walk (.idx (.var 0) (.lit (.int 3))))
    [.asg (.nm 5) (.ife (.cmp .eq (.var 4) (.tup [])) (.lit (.str "")) (.fs [(.lit (.str " over ")), (.fv (.idx (.idx (.var 4) (.lit (.int 0))) (.lit (.int 0)))), (.lit (.str " ")), (.fv (.idx (.idx (.var 4) (.lit (.int 0))) (.lit (.int 1)))), (.lit (.str " ")), (.fv (.idx (.idx (.var 4) (.lit (.int 0))) (.lit (.int 2))))])),
    .expr (.mt .append (.var 1) [(.bin .add false (.fs [(.lit (.str "signal ")), (.fv (.var 2)), (.lit (.str " ")), (.fv (.idx (.var 3) (.lit (.int 0)))), (.lit (.str " ")), (.fv (.idx (.var 3) (.lit (.int 1))))]) (.var 5))])],
    .ret (.var 1)]
noncomputable def T__law_lines : Tab := []
noncomputable def F__law_lines : Fn := evF T__law_lines 9 b__law_lines

/-! ### _law_shuffled -/
def n__law_shuffled : List Str := ["deck", "some", "turn", "left", "found"]
def b__law_shuffled : List S :=
    [.asg (.tp [(.nm 3), (.nm 4)]) (.tup [(.bi .list true [(.var 1)]), (.lst true [])]),
    .for_ (.nm 2) (.rng1 (.bi .len false [(.var 1)]))
    [.expr (.mt .append (.var 4) [(.mt .popAt (.var 3) [(.call 3 [(.var 0), (.bi .len false [(.var 3)])])])])],
    .ret (.bi .tuple false [(.var 4)])]
noncomputable def T__law_shuffled : Tab := [.free "list", .free "range", .free "len", .fn "_law_draw" ["deck", "many"] F__law_draw, .free "tuple"]
noncomputable def F__law_shuffled : Fn := evF T__law_shuffled 5 b__law_shuffled

/-! ### _law_is_written -/
def n__law_is_written : List Str := ["plan", "due", "text"]
def b__law_is_written : List S :=
    [.asg (.tp [(.nm 1), (.nm 2)]) (.tup [(.mt .join (.lit (.str "\n")) [(.call 0 [(.var 0)])]), (.call 1 [(.var 0)])]),
    .ite (.or_ [(.not_ (.isi (.var 2) .str)), (.cmp .ne (.var 2) (.var 1)), (.cmp .ne (.callk 4 [(.var 0)]) (.var 1))])
    [.ret (.lit (.bl false))]
    [],
    .ret (.cmp .eq (.call 1 [(.var 0)]) (.var 1))]
noncomputable def T__law_is_written : Tab := [.fn "_law_lines" ["plan"] F__law_lines, .fn "plan_text" ["plan"] F_plan_text, .free "isinstance", .free "str", .kw "plan_text" ["plan"] [0] F_plan_text]
noncomputable def F__law_is_written : Fn := evF T__law_is_written 3 b__law_is_written

/-! ### law -/
def n_law : List Str := ["script", "deck", "plan", "turn", "at", "mixed", "alone", "without", "part", "place"]
def b_law : List S :=
    [.asg (.nm 1) (.call 0 [(.var 0)]),
    .ite (.cmp .ne (.call 1 [(.tup [(.tup []), (.tup []), (.tup []), (.tup [])])]) (.lit (.str "")))
    [.ret (.lit (.bl false))]
    [],
    .for_ (.nm 2) (.walk (.tup [(.call 2 [(.var 1)]), (.call 3 [(.var 1), (.lst true []), (.lit (.int 12))]), (.call 2 [(.var 1)])]))
    [.ite (.not_ (.call 4 [(.var 2)]))
    [.ret (.lit (.bl false))]
    [],
    .for_ (.nm 3) (.rng1 (.lit (.int 3)))
    [.asg (.nm 5) (.bi .tuple false [(.lc false (.call 7 [(.var 1), (.var 8)]) (.nm 8) (.walk (.var 2)) none [8])]),
    .ite (.not_ (.call 4 [(.var 5)]))
    [.ret (.lit (.bl false))]
    []],
    .for_ (.nm 4) (.rng1 (.lit (.int 4)))
    [.asg (.nm 6) (.bi .tuple false [(.lc false (.ife (.cmp .eq (.var 9) (.var 4)) (.var 8) (.tup [])) (.tp [(.nm 9), (.nm 8)]) (.enum (.var 2)) none [9, 8])]),
    .asg (.nm 7) (.bi .tuple false [(.lc false (.ife (.cmp .eq (.var 9) (.var 4)) (.tup []) (.var 8)) (.tp [(.nm 9), (.nm 8)]) (.enum (.var 2)) none [9, 8])]),
    .ite (.or_ [(.not_ (.call 4 [(.var 6)])), (.not_ (.call 4 [(.var 7)]))])
    [.ret (.lit (.bl false))]
    []]],
    .ret (.lit (.bl true))]
noncomputable def T_law : Tab := [.fn "_law_deck" ["script"] F__law_deck, .fn "plan_text" ["plan"] F_plan_text, .fn "_law_free" ["deck"] F__law_free, .fn "_law_checked" ["deck", "used", "most"] F__law_checked, .fn "_law_is_written" ["plan"] F__law_is_written, .free "range", .free "tuple", .fn "_law_shuffled" ["deck", "some"] F__law_shuffled, .free "enumerate"]
noncomputable def F_law : Fn := evF T_law 10 b_law
end K02

set_option linter.all false
set_option autoImplicit false
set_option maxRecDepth 100000
set_option maxHeartbeats 1000000
namespace K02
open PySem (Str)
open Cl

def letters : Str := "abcdefghijklmnopqrstuvwxyz"
def signs : Str := "abcdefghijklmnopqrstuvwxyz0123456789"
structure NameOk (x : Str) : Prop where
  lo : 1 ≤ x.length
  hi : x.length ≤ 8
  first : x.cps.getD 0 0 ∈ letters.cps.toList
  all : ∀ c ∈ x.cps.toList, c ∈ signs.cps.toList
theorem NameOk.head {x : Str} (h : NameOk x) : x.cps.toList[0]? = some (x.cps.getD 0 0) := by
  have h1 : 0 < x.cps.size := h.lo
  rw [Array.getElem?_toList, Array.getElem?_eq_getElem h1, Array.getD, dif_pos h1]
  rfl
theorem sign_len (c : Nat) : (sign c).length = 1 := rfl
theorem sign_get (c : Nat) : (sign c).cps.getD 0 0 = c := rfl
theorem mem2 {α : Type} {P : α → Prop} {a b : α} (h1 : P a) (h2 : P b) : ∀ e ∈ [a, b], P e := by
  intro e m
  simp only [List.mem_cons, List.not_mem_nil, or_false] at m
  rcases m with rfl | rfl <;> assumption
theorem mem3 {α : Type} {P : α → Prop} {a b c : α} (h1 : P a) (h2 : P b) (h3 : P c) : ∀ e ∈ [a, b, c], P e := by
  intro e m
  simp only [List.mem_cons, List.not_mem_nil, or_false] at m
  rcases m with rfl | rfl | rfl <;> assumption
theorem mem4 {α : Type} {P : α → Prop} {a b c d : α} (h1 : P a) (h2 : P b) (h3 : P c) (h4 : P d) : ∀ e ∈ [a, b, c, d], P e := by
  intro e m
  simp only [List.mem_cons, List.not_mem_nil, or_false] at m
  rcases m with rfl | rfl | rfl | rfl <;> assumption
theorem le_bl {i j : Int} (h : i ≤ j) (S : Store) : cmpop .le (.int i) (.int j) S = .ok (.bl true) S := by
  show Res.ok (D.bl (decide (i ≤ j))) S = _
  rw [decide_eq_true h]
theorem is_name_ok {x : Str} (h : NameOk x) (S : Store) : F_is_name [.str x] S = .ok (.bl true) S := by
  have h1 : (1 : Int) ≤ (x.length : Int) := by have := h.lo; omega
  have h2 : (x.length : Int) ≤ 8 := by have := h.hi; omega
  have h3 : atI x.cps.toList 0 = some (x.cps.getD 0 0) := by
    have : 0 < x.cps.toList.length := by rw [Array.length_toList]; exact h.lo
    show (ixN x.cps.toList.length 0).bind _ = _
    have e : ixN x.cps.toList.length 0 = some 0 := by
      unfold ixN
      rw [if_pos (by omega), if_pos (by omega)]
      rfl
    rw [e]
    exact h.head
  refine fn_same (seq ((ite_f (or_none (mem2 (not_t rfl) (not_t ?_)))).trans nil_e) (ret_e (and_all (mem2 ?_ ?_))))
  · exact cmp2_t rfl rfl (le_bl h1 S) rfl (le_bl h2 S)
  · show (getitem (.str x) (.int 0) S).bind _ = _
    simp only [getitem, h3, Res.bind_ok]
    exact in_sign h.first
  · refine all_true (items := x.cps.toList.map fun c => D.str (sign c)) ?_
    refine lc_eq (items := x.cps.toList.map fun c => D.str (sign c)) (cl := none) (fun _ => .bl true) rfl trivial fun d hd => ⟨_, rfl, ?_⟩
    obtain ⟨c, hc, rfl⟩ := List.mem_map.mp hd
    exact in_sign (h.all c hc)

/-! ### plans -/
abbrev En := Str × Int
def En.d (e : En) : D := .tup [.str e.1, .int e.2]
structure En.ok (e : En) : Prop where
  name : NameOk e.1
  lo : 0 ≤ e.2
  hi : e.2 ≤ 3
abbrev Sp := Str × Int × Int
def Sp.d (s : Sp) : D := .tup [.str s.1, .int s.2.1, .int s.2.2]
structure Sp.ok (s : Sp) : Prop where
  name : NameOk s.1
  lo : 0 ≤ s.2.1
  hi : s.2.1 ≤ 3
  lo2 : 0 ≤ s.2.2
  hi2 : s.2.2 ≤ 3
structure Si where
  name : Str
  en : En
  over : List Sp
def Si.d (s : Si) : D := .tup [.str s.name, s.en.d, .tup (s.over.map Sp.d)]
structure Si.ok (s : Si) : Prop where
  name : NameOk s.name
  en : s.en.ok
  len : s.over.length ≤ 1
  over : ∀ o ∈ s.over, o.ok
def kinds : List Str := ["plain", "points", "crossing"]
structure Plan where
  st : List (Str × Str)
  jo : List (En × En)
  ga : List (Str × En)
  si : List Si
def stD (s : Str × Str) : D := .tup [.str s.1, .str s.2]
def joD (j : En × En) : D := .tup [j.1.d, j.2.d]
def gaD (g : Str × En) : D := .tup [.str g.1, g.2.d]
def Plan.d (p : Plan) : D := .tup [.tup (p.st.map stD), .tup (p.jo.map joD), .tup (p.ga.map gaD), .tup (p.si.map Si.d)]
structure Plan.ok (p : Plan) : Prop where
  st : ∀ s ∈ p.st, NameOk s.1 ∧ s.2 ∈ kinds
  jo : ∀ j ∈ p.jo, j.1.ok ∧ j.2.ok
  ga : ∀ g ∈ p.ga, NameOk g.1 ∧ g.2.ok
  si : ∀ s ∈ p.si, s.ok
  st_n : p.st.length ≤ 1000
  jo_n : p.jo.length ≤ 1000
  ga_n : p.ga.length ≤ 1000
  si_n : p.si.length ≤ 1000
theorem end_number {i : Int} (h1 : 0 ≤ i) (h2 : i ≤ 3) (S : Store) : F_is_end_number [.int i] S = .ok (.bl true) S := by
  refine fn_same (ret_e (and_all (mem2 ?_ ?_)))
  · show fin S (.bl true) S = _
    rw [fin, trim_same]
  · exact cmp2_t rfl rfl (le_bl h1 S) rfl (le_bl h2 S)
theorem end_form {e : En} (h : e.ok) (S : Store) : F_is_end_form [e.d] S = .ok (.bl true) S :=
  fn_same (ret_e (and_all (mem4 rfl rfl (is_name_ok h.name S) (end_number h.lo h.hi S))))
theorem step_form {s : Sp} (h : s.ok) (S : Store) : F_is_step_form [s.d] S = .ok (.bl true) S :=
  fn_same (seq ((ite_f (or_none (mem2 (not_t rfl) rfl))).trans nil_e) (ret_e (and_all (mem3 (is_name_ok h.name S) (end_number h.lo h.hi S) (end_number h.lo2 h.hi2 S)))))
theorem in_ends {k : Str} (h : k ∈ kinds) (S : Store) : cmpop .in_ (.str k) k_ENDS S = .ok (.bl true) S := by
  unfold kinds at h
  simp only [List.mem_cons, List.not_mem_nil, or_false] at h
  rcases h with rfl | rfl | rfl <;> rfl
theorem is_stretch_ok {s : Str × Str} (h1 : NameOk s.1) (h2 : s.2 ∈ kinds) (S : Store) : F_is_stretch [stD s] S = .ok (.bl true) S :=
  fn_same (seq ((ite_f (or_none (mem3 (not_t rfl) rfl (not_t (by exact is_name_ok h1 S))))).trans nil_e) (ret_e (and_all (mem2 rfl (in_ends h2 S)))))
theorem is_joint_ok {j : En × En} (h1 : j.1.ok) (h2 : j.2.ok) (S : Store) : F_is_joint [joD j] S = .ok (.bl true) S :=
  fn_same (ret_e (and_all (mem4 rfl rfl (end_form h1 S) (end_form h2 S))))
theorem is_gate_ok {g : Str × En} (h1 : NameOk g.1) (h2 : g.2.ok) (S : Store) : F_is_gate [gaD g] S = .ok (.bl true) S :=
  fn_same (ret_e (and_all (mem4 rfl rfl (is_name_ok h1 S) (end_form h2 S))))
theorem is_signal_ok {s : Si} (h : s.ok) (S : Store) : F_is_signal [s.d] S = .ok (.bl true) S := by
  refine fn_same (seq ((ite_f (or_none (mem4 (not_t rfl) rfl (not_t (by exact is_name_ok h.name S)) (not_t (by exact end_form h.en S))))).trans nil_e) (seq (asg_e rfl rfl) (ret_e (and_all (mem3 rfl ?_ ?_)))))
  · show cmpop .le (.int (s.over.map Sp.d).length) (.int 1) S = _
    refine le_bl ?_ S
    rw [List.length_map]
    have := h.len
    omega
  · refine all_true (items := s.over.map Sp.d) ?_
    refine lc_eq (items := s.over.map Sp.d) (cl := none) (fun _ => .bl true) rfl trivial fun d hd => ⟨_, rfl, ?_⟩
    obtain ⟨o, ho, rfl⟩ := List.mem_map.mp hd
    exact step_form (h.over o ho) S
theorem plan_value {p : Plan} (h : p.ok) (S : Store) : F_is_plan_value [p.d] S = .ok (.bl true) S := by
  refine fn_same (seq ((ite_f (or_none (mem3 (not_t rfl) rfl (not_t ?_)))).trans nil_e) (seq (asg_e rfl rfl) (seq ((ite_f (or_none (mem2 (not_t ?_) (not_t ?_)))).trans nil_e) (ret_e (and_all (mem2 ?_ ?_))))))
  · refine all_true (items := [.tup (p.st.map stD), .tup (p.jo.map joD), .tup (p.ga.map gaD), .tup (p.si.map Si.d)]) ?_
    refine lc_eq (cl := none) (fun _ => .bl true) rfl trivial fun d hd => ⟨_, rfl, ?_⟩
    simp only [List.mem_cons, List.not_mem_nil, or_false] at hd
    rcases hd with rfl | rfl | rfl | rfl <;> rfl
  · refine all_true (items := p.st.map stD) ?_
    refine lc_eq (items := p.st.map stD) (cl := none) (fun _ => .bl true) rfl trivial fun d hd => ⟨_, rfl, ?_⟩
    obtain ⟨o, ho, rfl⟩ := List.mem_map.mp hd
    exact is_stretch_ok (h.st o ho).1 (h.st o ho).2 S
  · refine all_true (items := p.jo.map joD) ?_
    refine lc_eq (items := p.jo.map joD) (cl := none) (fun _ => .bl true) rfl trivial fun d hd => ⟨_, rfl, ?_⟩
    obtain ⟨o, ho, rfl⟩ := List.mem_map.mp hd
    exact is_joint_ok (h.jo o ho).1 (h.jo o ho).2 S
  · refine all_true (items := p.ga.map gaD) ?_
    refine lc_eq (items := p.ga.map gaD) (cl := none) (fun _ => .bl true) rfl trivial fun d hd => ⟨_, rfl, ?_⟩
    obtain ⟨o, ho, rfl⟩ := List.mem_map.mp hd
    exact is_gate_ok (h.ga o ho).1 (h.ga o ho).2 S
  · refine all_true (items := p.si.map Si.d) ?_
    refine lc_eq (items := p.si.map Si.d) (cl := none) (fun _ => .bl true) rfl trivial fun d hd => ⟨_, rfl, ?_⟩
    obtain ⟨o, ho, rfl⟩ := List.mem_map.mp hd
    exact is_signal_ok (h.si o ho) S
theorem need_plan_ok {p : Plan} (h : p.ok) (S : Store) : F_need_plan [p.d] S = .ok .non S :=
  fn_none (seq ((ite_f (not_t (by exact plan_value h S))).trans nil_e) nil_e)

/-! ### the lines -/
def enT (e : En) : Str := cat [e.1, " ", num e.2]
def stL (s : Str × Str) : Str := cat ["stretch", " ", s.1, " ", s.2]
def joL (j : En × En) : Str := cat ["join", " ", enT j.1, " ", enT j.2]
def gaL (g : Str × En) : Str := cat ["gate", " ", g.1, " ", enT g.2]
def ovL (o : Sp) : Str := cat [" ", "over", " ", o.1, " ", num o.2.1, " ", num o.2.2]
def siL (s : Si) : Str := cat ["signal", " ", s.name, " ", enT s.en] ++ Str.join "" (s.over.map ovL)
def rows (p : Plan) : List Str := p.st.map stL ++ p.jo.map joL ++ p.ga.map gaL ++ p.si.map siL
def text (p : Plan) : Str := Str.join "\n" (rows p)
theorem small {i : Int} (h1 : 0 ≤ i) (h2 : i ≤ 3) : i = 0 ∨ i = 1 ∨ i = 2 ∨ i = 3 := by omega
theorem num_len {i : Int} (h1 : 0 ≤ i) (h2 : i ≤ 3) : (num i).length = 1 := by
  rcases small h1 h2 with rfl | rfl | rfl | rfl <;> rfl
theorem num_log {i : Int} (h1 : 0 ≤ i) (h2 : i ≤ 3) : i.natAbs.log2 < 1920 := by
  rcases small h1 h2 with rfl | rfl | rfl | rfl <;> decide
theorem enT_len {e : En} (h : e.ok) : (enT e).length ≤ 10 := by
  have h1 := num_len h.lo h.hi
  have h2 := h.name.hi
  have h3 : (" " : Str).length = 1 := rfl
  rw [enT, cat_length]
  simp only [List.map_cons, List.map_nil, List.sum_cons, List.sum_nil]
  omega
theorem end_text_ok {e : En} (h : e.ok) (S : Store) : F_end_text [e.d] S = .ok (.str (enT e)) S := by
  refine fn_same (ret_e (fs_e (xs := [e.1, " ", num e.2]) (.cons (fv_str rfl) (.cons rfl (.cons (fv_int rfl (num_log h.lo h.hi)) .nil))) ?_))
  have := enT_len h
  unfold enT at this
  unfold line
  omega

theorem kind_len {k : Str} (h : k ∈ kinds) : k.length ≤ 8 := by
  unfold kinds at h
  simp only [List.mem_cons, List.not_mem_nil, or_false] at h
  rcases h with rfl | rfl | rfl <;> decide
theorem stL_len {s : Str × Str} (h1 : NameOk s.1) (h2 : s.2 ∈ kinds) : (stL s).length ≤ 100 := by
  have h1 := h1.hi
  have h2 := kind_len h2
  have e1 : ("stretch" : Str).length = 7 := rfl
  have e2 : (" " : Str).length = 1 := rfl
  rw [stL, cat_length]
  simp only [List.map_cons, List.map_nil, List.sum_cons, List.sum_nil]
  omega
theorem joL_len {j : En × En} (h1 : j.1.ok) (h2 : j.2.ok) : (joL j).length ≤ 100 := by
  have h1 := enT_len h1
  have h2 := enT_len h2
  have e1 : ("join" : Str).length = 4 := rfl
  have e2 : (" " : Str).length = 1 := rfl
  rw [joL, cat_length]
  simp only [List.map_cons, List.map_nil, List.sum_cons, List.sum_nil]
  omega
theorem gaL_len {g : Str × En} (h1 : NameOk g.1) (h2 : g.2.ok) : (gaL g).length ≤ 100 := by
  have h1 := h1.hi
  have h2 := enT_len h2
  have e1 : ("gate" : Str).length = 4 := rfl
  have e2 : (" " : Str).length = 1 := rfl
  rw [gaL, cat_length]
  simp only [List.map_cons, List.map_nil, List.sum_cons, List.sum_nil]
  omega
theorem ovL_len {o : Sp} (h : o.ok) : (ovL o).length ≤ 40 := by
  have h1 := h.name.hi
  have h2 := num_len h.lo h.hi
  have h3 := num_len h.lo2 h.hi2
  have e1 : ("over" : Str).length = 4 := rfl
  have e2 : (" " : Str).length = 1 := rfl
  rw [ovL, cat_length]
  simp only [List.map_cons, List.map_nil, List.sum_cons, List.sum_nil]
  omega
def siT (s : Si) : Str := cat ["signal", " ", s.name, " ", enT s.en]
theorem siT_len {s : Si} (h : s.ok) : (siT s).length ≤ 60 := by
  have h1 := h.name.hi
  have h2 := enT_len h.en
  have e1 : ("signal" : Str).length = 6 := rfl
  have e2 : (" " : Str).length = 1 := rfl
  rw [siT, cat_length]
  simp only [List.map_cons, List.map_nil, List.sum_cons, List.sum_nil]
  omega
/-- the overlap's text -/
theorem ov_join {s : Si} (h : s.ok) : joinLen "" (s.over.map ovL) ≤ 40 ∧ (Str.join "" (s.over.map ovL)).length ≤ 40 := by
  have hl := h.len
  have ho := h.over
  cases e : s.over with
  | nil => exact ⟨Nat.zero_le _, Nat.zero_le _⟩
  | cons o r =>
    rw [e] at hl ho
    have : r = [] := by
      cases r with
      | nil => rfl
      | cons a b => simp at hl
    subst this
    have := ovL_len (ho o (List.mem_cons_self ..))
    refine ⟨?_, this⟩
    rw [join_len']
    have e0 : ("" : Str).length = 0 := rfl
    simp only [List.map_cons, List.map_nil, List.sum_cons, List.sum_nil, List.length_cons, List.length_nil]
    omega
theorem siL_len {s : Si} (h : s.ok) : (siL s).length ≤ 100 := by
  have h1 := siT_len h
  have h2 := (ov_join h).2
  unfold siT at h1
  rw [siL, str_length]
  omega
theorem rows_len {p : Plan} (h : p.ok) : ∀ x ∈ rows p, x.length ≤ 100 := by
  intro x m
  simp only [rows, List.mem_append, List.mem_map] at m
  rcases m with ((⟨s, m, rfl⟩ | ⟨s, m, rfl⟩) | ⟨s, m, rfl⟩) | ⟨s, m, rfl⟩
  · exact stL_len (h.st s m).1 (h.st s m).2
  · exact joL_len (h.jo s m).1 (h.jo s m).2
  · exact gaL_len (h.ga s m).1 (h.ga s m).2
  · exact siL_len (h.si s m)
theorem rows_n {p : Plan} (h : p.ok) : (rows p).length ≤ 4000 := by
  have := h.st_n
  have := h.jo_n
  have := h.ga_n
  have := h.si_n
  simp only [rows, List.length_append, List.length_map]
  omega
theorem sum_le {l : List Str} (h : ∀ x ∈ l, x.length ≤ 100) : (l.map fun x => x.length).sum ≤ 100 * l.length := by
  induction l with
  | nil => exact Nat.zero_le _
  | cons a l ih =>
    have h1 := h a (List.mem_cons_self ..)
    have h2 := ih fun x m => h x (List.mem_cons_of_mem _ m)
    simp only [List.map_cons, List.sum_cons, List.length_cons]
    omega
theorem text_fits {p : Plan} (h : p.ok) : joinLen "\n" (rows p) ≤ line := by
  have h1 := sum_le (rows_len h)
  have h2 := rows_n h
  have e : ("\n" : Str).length = 1 := rfl
  rw [join_len', e]
  unfold line
  omega
theorem li {x : Str} (h : x.length ≤ 100) : x.length ≤ line := by unfold line; omega
theorem plan_text_ok {p : Plan} (h : p.ok) (S : Store) : F_plan_text [p.d] S = .ok (.str (text p)) S := by
  have hn := rows_n h
  simp only [rows, List.length_append, List.length_map] at hn
  have k1 : evE T_plan_text (.lc true (.fs [.fv (.glo 1), .lit (.str " "), .fv (.var 2), .lit (.str " "), .fv (.var 6)]) (.tp [.nm 2, .nm 6]) (.walk (.idx (.var 0) (.lit (.int 0)))) none [2, 6]) [some p.d, none, none, none, none, none, none, none, none, none] S = .ok (.ref S.length) (S ++ [.lst (p.st.map fun s => .str (stL s))]) := by
    refine lc_map (xs := p.st) (cl := none) stD (fun s => .str (stL s)) rfl trivial fun s m => ⟨_, rfl, ?_⟩
    exact fs_e (.cons (fv_str rfl) (.cons rfl (.cons (fv_str rfl) (.cons rfl (.cons (fv_str rfl) .nil))))) (li (stL_len (h.st s m).1 (h.st s m).2))
  have k2 : ∀ (S2 : Store) (r : D), evE T_plan_text (.lc false (.fs [.fv (.glo 2), .lit (.str " "), .fv (.call 3 [.var 7]), .lit (.str " "), .fv (.call 3 [.var 8])]) (.tp [.nm 7, .nm 8]) (.walk (.idx (.var 0) (.lit (.int 1)))) none [7, 8]) [some p.d, some r, none, none, none, none, none, none, none, none] S2 = .ok (.lst (p.jo.map fun s => .str (joL s))) S2 := fun S2 r => by
    refine lc_map (xs := p.jo) (cl := none) joD (fun s => .str (joL s)) rfl trivial fun s m => ⟨_, rfl, ?_⟩
    exact fs_e (.cons (fv_str rfl) (.cons rfl (.cons (fv_str (end_text_ok (h.jo s m).1 S2)) (.cons rfl (.cons (fv_str (end_text_ok (h.jo s m).2 S2)) .nil))))) (li (joL_len (h.jo s m).1 (h.jo s m).2))
  have k3 : ∀ (S2 : Store) (r : D), evE T_plan_text (.lc false (.fs [.fv (.glo 4), .lit (.str " "), .fv (.var 2), .lit (.str " "), .fv (.call 3 [.var 3])]) (.tp [.nm 2, .nm 3]) (.walk (.idx (.var 0) (.lit (.int 2)))) none [2, 3]) [some p.d, some r, none, none, none, none, none, none, none, none] S2 = .ok (.lst (p.ga.map fun s => .str (gaL s))) S2 := fun S2 r => by
    refine lc_map (xs := p.ga) (cl := none) gaD (fun s => .str (gaL s)) rfl trivial fun s m => ⟨_, rfl, ?_⟩
    exact fs_e (.cons (fv_str rfl) (.cons rfl (.cons (fv_str rfl) (.cons rfl (.cons (fv_str (end_text_ok (h.ga s m).2 S2)) .nil))))) (li (gaL_len (h.ga s m).1 (h.ga s m).2))
  -- the signals, one by one
  have k4 : ∃ ρ' S', evS T_plan_text (.for_ (.tp [.nm 2, .nm 3, .nm 4]) (.walk (.idx (.var 0) (.lit (.int 3))))
      [.asg (.nm 5) (.lc false (.fs [.lit (.str " "), .fv (.glo 5), .lit (.str " "), .fv (.idx (.var 9) (.lit (.int 0))), .lit (.str " "), .fv (.idx (.var 9) (.lit (.int 1))), .lit (.str " "), .fv (.idx (.var 9) (.lit (.int 2)))]) (.nm 9) (.walk (.var 4)) none [9]),
      .expr (.mt .append (.var 1) [.bin .add false (.fs [.fv (.glo 6), .lit (.str " "), .fv (.var 2), .lit (.str " "), .fv (.call 3 [.var 3])]) (.mt .join (.lit (.str "")) [.var 5])])])
      [some p.d, some (.ref S.length), none, none, none, none, none, none, none, none] (S ++ [.lst ((p.st.map stL ++ p.jo.map joL ++ p.ga.map gaL).map D.str)]) = .ok (.nx ρ') S' ∧ (S' = S ++ [.lst ((p.st.map stL ++ p.jo.map joL ++ p.ga.map gaL ++ p.si.map siL).map D.str)] ∧ ρ'[1]? = some (some (.ref S.length))) := by
    have hf := forL_map (J := ⟨p.si.map Si.d, none⟩) (all := p.si) (xs := p.si) (done := []) (ρ := [some p.d, some (.ref S.length), none, none, none, none, none, none, none, none]) (S := S ++ [.lst ((p.st.map stL ++ p.jo.map joL ++ p.ga.map gaL).map D.str)])
      (f := fun d ρ1 S2 => match asgT (.tp [.nm 2, .nm 3, .nm 4]) d ρ1 with
        | none => .stuck
        | some ρ2 => evSs T_plan_text [.asg (.nm 5) (.lc false (.fs [.lit (.str " "), .fv (.glo 5), .lit (.str " "), .fv (.idx (.var 9) (.lit (.int 0))), .lit (.str " "), .fv (.idx (.var 9) (.lit (.int 1))), .lit (.str " "), .fv (.idx (.var 9) (.lit (.int 2)))]) (.nm 9) (.walk (.var 4)) none [9]),
          .expr (.mt .append (.var 1) [.bin .add false (.fs [.fv (.glo 6), .lit (.str " "), .fv (.var 2), .lit (.str " "), .fv (.call 3 [.var 3])]) (.mt .join (.lit (.str "")) [.var 5])])] ρ2 S2) Si.d
      (fun done ρ S2 => (∃ a b c d, ρ = [some p.d, some (.ref S.length), a, b, c, d, none, none, none, none]) ∧ S2 = S ++ [.lst ((p.st.map stL ++ p.jo.map joL ++ p.ga.map gaL ++ done.map siL).map D.str)])
      (fun _ _ _ _ => trivial) rfl ⟨⟨none, none, none, none, rfl⟩, by simp⟩ ?_
    · obtain ⟨ρ', S', e, ⟨a, b, c, d, eρ⟩, eS⟩ := hf
      exact ⟨ρ', S', for_e (J := ⟨p.si.map Si.d, none⟩) rfl e, eS, by rw [eρ]; rfl⟩
    · rintro done s rest ρ S2 eall ⟨⟨a, b, c, d, rfl⟩, rfl⟩
      have hs := h.si s (by rw [eall]; simp)
      have hb := (ov_join hs).1
      have hsn := h.si_n
      rw [eall] at hsn
      simp only [List.length_append, List.length_cons] at hsn
      refine ⟨_, _, seq (asg_e (d := .lst (s.over.map fun o => .str (ovL o))) (lc_map (xs := s.over) (cl := none) Sp.d (fun o => .str (ovL o)) rfl trivial fun o m => ⟨_, rfl, ?_⟩) rfl) (seq (expr_e (append_e (x := .str (siL s)) rfl ?_ (s_get _ _) ?_)) nil_e), ⟨_, _, _, _, rfl⟩, ?_⟩
      · exact fs_e (.cons rfl (.cons (fv_str rfl) (.cons rfl (.cons (fv_str rfl) (.cons rfl (.cons (fv_int rfl (num_log (hs.over o m).lo (hs.over o m).hi)) (.cons rfl (.cons (fv_int rfl (num_log (hs.over o m).lo2 (hs.over o m).hi2)) .nil)))))))) (li (Nat.le_trans (ovL_len (hs.over o m)) (by omega)))
      · refine add_str (x := siT s) (y := Str.join "" (s.over.map ovL)) ?_ ?_ (li (siL_len hs))
        · exact fs_e (.cons (fv_str rfl) (.cons rfl (.cons (fv_str rfl) (.cons rfl (.cons (fv_str (end_text_ok hs.en _)) .nil))))) (li (Nat.le_trans (siT_len hs) (by omega)))
        · refine join_e rfl rfl rfl ?_ (by unfold line; omega)
          rw [← txts_map, List.map_map]
          rfl
      · rw [List.length_map]
        simp only [List.length_append, List.length_map]
        unfold line
        omega
      · rw [s_set]
        simp [List.map_append]
  obtain ⟨ρ', S', e4, eS, eρ⟩ := k4
  refine fn_app (l := [.lst ((rows p).map D.str)]) ?_ (by simp only [bnd])
  refine seq (expr_e (need_plan_ok h S)) (seq (asg_e k1 rfl) (seq (aug_lst rfl (k2 _ _) (s_get _ _) ?_) (seq (aug_lst rfl (k3 _ _) (by rw [s_set]; exact s_get _ _) ?_) (seq (ρ1 := ρ') (S1 := S') ?_ (ret_e ?_)))))
  · simp only [List.length_map]
    unfold line
    omega
  · simp only [List.length_map, List.length_append]
    unfold line
    omega
  · rw [s_set, s_set]
    simp only [List.map_append, List.map_map] at e4 ⊢
    exact e4
  · refine join_e (x := .ref S.length) (S' := S') (ds := (rows p).map D.str) rfl (by simp only [evE, eρ]) ?_ (txts_map _) (text_fits h) |>.trans ?_
    · rw [eS]
      show lstOf (S ++ [_]) (.ref S.length) = _
      simp only [lstOf, s_get]
      rfl
    · rw [eS]
      rfl

/-! ### the law's own lines -/
theorem st_eq (s : Str × Str) : ("stretch " : Str) ++ s.1 ++ " " ++ s.2 = stL s := by
  have e : ("stretch " : Str) = "stretch" ++ " " := rfl
  simp only [stL, cat_cons, cat_nil, str_nil_r, str_assoc, e]
theorem jo_eq (j : En × En) : cat ["join ", j.1.1, " ", num j.1.2, " ", j.2.1, " ", num j.2.2] = joL j := by
  have e : ("join " : Str) = "join" ++ " " := rfl
  simp only [joL, enT, cat_cons, cat_nil, str_nil_r, str_assoc, e]
theorem ga_eq (g : Str × En) : cat ["gate ", g.1, " ", g.2.1, " ", num g.2.2] = gaL g := by
  have e : ("gate " : Str) = "gate" ++ " " := rfl
  simp only [gaL, enT, cat_cons, cat_nil, str_nil_r, str_assoc, e]
theorem si_eq (s : Si) : cat ["signal ", s.name, " ", s.en.1, " ", num s.en.2] = siT s := by
  have e : ("signal " : Str) = "signal" ++ " " := rfl
  simp only [siT, enT, cat_cons, cat_nil, str_nil_r, str_assoc, e]
theorem ov_eq (o : Sp) : cat [" over ", o.1, " ", num o.2.1, " ", num o.2.2] = ovL o := by
  have e : (" over " : Str) = " " ++ "over" ++ " " := rfl
  simp only [ovL, cat_cons, cat_nil, str_nil_r, str_assoc, e]
theorem en_len {e : En} (h : e.ok) : e.1.length ≤ 8 ∧ (num e.2).length = 1 := ⟨h.name.hi, num_len h.lo h.hi⟩
theorem law_lines_ok {p : Plan} (h : p.ok) (S : Store) : ∃ c0 c1, F__law_lines [p.d] S = .ok (.ref (S.length + 2)) (S ++ [c0, c1, .lst ((rows p).map D.str)]) := by
  have hn := rows_n h
  simp only [rows, List.length_append, List.length_map] at hn
  have k1 : evE T__law_lines (.lc true (.bin .add false (.bin .add false (.bin .add false (.lit (.str "stretch ")) (.var 2)) (.lit (.str " "))) (.var 6)) (.tp [.nm 2, .nm 6]) (.walk (.idx (.var 0) (.lit (.int 0)))) none [2, 6]) [some p.d, none, none, none, none, none, none, none, none] S = .ok (.ref S.length) (S ++ [.lst (p.st.map fun s => .str (stL s))]) := by
    refine lc_map (xs := p.st) (cl := none) stD (fun s => .str (stL s)) rfl trivial fun s m => ⟨_, rfl, ?_⟩
    have hl := stL_len (h.st s m).1 (h.st s m).2
    rw [← st_eq] at hl ⊢
    have hl2 := hl
    rw [str_length, str_length, str_length] at hl2
    exact add_str (add_str (add_str rfl rfl (li (by rw [str_length]; omega))) rfl (li (by rw [str_length, str_length]; omega))) rfl (li hl)
  have k2 : ∀ (S2 : Store) (r : D), evE T__law_lines (.lc false (.fs [.lit (.str "join "), .fv (.idx (.var 7) (.lit (.int 0))), .lit (.str " "), .fv (.idx (.var 7) (.lit (.int 1))), .lit (.str " "), .fv (.idx (.var 8) (.lit (.int 0))), .lit (.str " "), .fv (.idx (.var 8) (.lit (.int 1)))]) (.tp [.nm 7, .nm 8]) (.walk (.idx (.var 0) (.lit (.int 1)))) none [7, 8])
      [some p.d, some r, none, none, none, none, none, none, none] S2 = .ok (.lst (p.jo.map fun s => .str (joL s))) S2 := fun S2 r => by
    refine lc_map (xs := p.jo) (cl := none) joD (fun s => .str (joL s)) rfl trivial fun s m => ⟨_, rfl, ?_⟩
    obtain ⟨h1, h2⟩ := h.jo s m
    have hl := joL_len h1 h2
    rw [← jo_eq] at hl ⊢
    exact fs_e (.cons rfl (.cons (fv_str rfl) (.cons rfl (.cons (fv_int rfl (num_log h1.lo h1.hi)) (.cons rfl (.cons (fv_str rfl) (.cons rfl (.cons (fv_int rfl (num_log h2.lo h2.hi)) .nil)))))))) (li hl)
  have k3 : ∀ (S2 : Store) (r : D), evE T__law_lines (.lc false (.fs [.lit (.str "gate "), .fv (.var 2), .lit (.str " "), .fv (.idx (.var 3) (.lit (.int 0))), .lit (.str " "), .fv (.idx (.var 3) (.lit (.int 1)))]) (.tp [.nm 2, .nm 3]) (.walk (.idx (.var 0) (.lit (.int 2)))) none [2, 3])
      [some p.d, some r, none, none, none, none, none, none, none] S2 = .ok (.lst (p.ga.map fun s => .str (gaL s))) S2 := fun S2 r => by
    refine lc_map (xs := p.ga) (cl := none) gaD (fun s => .str (gaL s)) rfl trivial fun s m => ⟨_, rfl, ?_⟩
    obtain ⟨h1, h2⟩ := h.ga s m
    have hl := gaL_len h1 h2
    rw [← ga_eq] at hl ⊢
    exact fs_e (.cons rfl (.cons (fv_str rfl) (.cons rfl (.cons (fv_str rfl) (.cons rfl (.cons (fv_int rfl (num_log h2.lo h2.hi)) .nil)))))) (li hl)
  have k4 : ∀ (b : List D) (S0 : Store) (n : Nat), n = S0.length → b.length ≤ 3000 → ∃ ρ' S', evS T__law_lines (.for_ (.tp [.nm 2, .nm 3, .nm 4]) (.walk (.idx (.var 0) (.lit (.int 3))))
      [.asg (.nm 5) (.ife (.cmp .eq (.var 4) (.tup [])) (.lit (.str "")) (.fs [.lit (.str " over "), .fv (.idx (.idx (.var 4) (.lit (.int 0))) (.lit (.int 0))), .lit (.str " "), .fv (.idx (.idx (.var 4) (.lit (.int 0))) (.lit (.int 1))), .lit (.str " "), .fv (.idx (.idx (.var 4) (.lit (.int 0))) (.lit (.int 2)))])),
      .expr (.mt .append (.var 1) [.bin .add false (.fs [.lit (.str "signal "), .fv (.var 2), .lit (.str " "), .fv (.idx (.var 3) (.lit (.int 0))), .lit (.str " "), .fv (.idx (.var 3) (.lit (.int 1)))]) (.var 5)])])
      [some p.d, some (.ref n), none, none, none, none, none, none, none] (S0 ++ [.lst b]) = .ok (.nx ρ') S' ∧ (S' = S0 ++ [.lst (b ++ (p.si.map siL).map D.str)] ∧ ρ'[1]? = some (some (.ref n))) := fun b S0 n en hb => by
    subst en
    have hf := forL_map (J := ⟨p.si.map Si.d, none⟩) (all := p.si) (xs := p.si) (done := []) (ρ := [some p.d, some (.ref S0.length), none, none, none, none, none, none, none]) (S := S0 ++ [.lst b])
      (f := fun d ρ1 S2 => match asgT (.tp [.nm 2, .nm 3, .nm 4]) d ρ1 with
        | none => .stuck
        | some ρ2 => evSs T__law_lines [.asg (.nm 5) (.ife (.cmp .eq (.var 4) (.tup [])) (.lit (.str "")) (.fs [.lit (.str " over "), .fv (.idx (.idx (.var 4) (.lit (.int 0))) (.lit (.int 0))), .lit (.str " "), .fv (.idx (.idx (.var 4) (.lit (.int 0))) (.lit (.int 1))), .lit (.str " "), .fv (.idx (.idx (.var 4) (.lit (.int 0))) (.lit (.int 2)))])),
          .expr (.mt .append (.var 1) [.bin .add false (.fs [.lit (.str "signal "), .fv (.var 2), .lit (.str " "), .fv (.idx (.var 3) (.lit (.int 0))), .lit (.str " "), .fv (.idx (.var 3) (.lit (.int 1)))]) (.var 5)])] ρ2 S2) Si.d
      (fun done ρ S2 => (∃ a b c d, ρ = [some p.d, some (.ref S0.length), a, b, c, d, none, none, none]) ∧ S2 = S0 ++ [.lst (b ++ (done.map siL).map D.str)])
      (fun _ _ _ _ => trivial) rfl ⟨⟨none, none, none, none, rfl⟩, by simp⟩ ?_
    · obtain ⟨ρ', S', e, ⟨a, b, c, d, eρ⟩, eS⟩ := hf
      exact ⟨ρ', S', for_e (J := ⟨p.si.map Si.d, none⟩) rfl e, eS, by rw [eρ]; rfl⟩
    · rintro done s rest ρ S2 eall ⟨⟨a, b', c, d, rfl⟩, rfl⟩
      have hs := h.si s (by rw [eall]; simp)
      have hb2 := (ov_join hs).2
      have hsn := h.si_n
      rw [eall] at hsn
      simp only [List.length_append, List.length_cons] at hsn
      have hl1 := siT_len hs
      refine ⟨_, _, seq (asg_e (d := .str (Str.join "" (s.over.map ovL))) ?_ rfl) (seq (expr_e (append_e (x := .str (siL s)) (ds := b ++ (done.map siL).map D.str) rfl ?_ (s_get _ _) ?_)) nil_e), ⟨_, _, _, _, rfl⟩, ?_⟩
      · have hov := hs.over
        have hlen := hs.len
        show evE T__law_lines _ [some p.d, some (.ref S0.length), some (.str s.name), some s.en.d, some (.tup (s.over.map Sp.d)), d, none, none, none] (S0 ++ [.lst (b ++ (done.map siL).map D.str)]) = _
        cases e : s.over with
        | nil => exact ife_t rfl rfl
        | cons o r =>
          rw [e] at hlen hov
          have er : r = [] := by
            cases r with
            | nil => rfl
            | cons a b => simp at hlen
          subst er
          have ho := hov o (List.mem_cons_self ..)
          have hl := ovL_len ho
          show _ = Res.ok (D.str (ovL o)) _
          refine ife_f rfl ?_
          rw [← ov_eq] at hl ⊢
          exact fs_e (.cons rfl (.cons (fv_str rfl) (.cons rfl (.cons (fv_int rfl (num_log ho.lo ho.hi)) (.cons rfl (.cons (fv_int rfl (num_log ho.lo2 ho.hi2)) .nil)))))) (li (Nat.le_trans hl (by omega)))
      · refine add_str (x := siT s) (y := Str.join "" (s.over.map ovL)) ?_ rfl (li (siL_len hs))
        rw [← si_eq] at hl1 ⊢
        exact fs_e (.cons rfl (.cons (fv_str rfl) (.cons rfl (.cons (fv_str rfl) (.cons rfl (.cons (fv_int rfl (num_log hs.en.lo hs.en.hi)) .nil)))))) (li (Nat.le_trans hl1 (by omega)))
      · simp only [List.length_append, List.length_map]
        unfold line
        omega
      · rw [s_set]
        simp [List.map_append]
  have e0 : (p.st.map fun s => D.str (stL s)).length = p.st.length := List.length_map ..
  have e1 : (p.jo.map fun s => D.str (joL s)).length = p.jo.length := List.length_map ..
  have e2 : (p.ga.map fun s => D.str (gaL s)).length = p.ga.length := List.length_map ..
  obtain ⟨ρ', S', e4, eS, eρ⟩ := k4 ((p.st.map fun s => D.str (stL s)) ++ (p.jo.map fun s => D.str (joL s)) ++ p.ga.map fun s => D.str (gaL s)) (S ++ [.lst (p.st.map fun s => .str (stL s))] ++ [.lst ((p.st.map fun s => D.str (stL s)) ++ p.jo.map fun s => D.str (joL s))]) (S.length + 2) (by simp) (by
    have := h.st_n
    have := h.jo_n
    have := h.ga_n
    rw [List.length_append, List.length_append, e0, e1, e2]
    omega)
  refine ⟨.lst (p.st.map fun s => .str (stL s)), .lst ((p.st.map fun s => D.str (stL s)) ++ p.jo.map fun s => D.str (joL s)), ?_⟩
  have z : F__law_lines [p.d] S = .ok (.ref (S.length + 2)) S' := by
    refine fn_keep ?_ ?_
    rotate_left
    · simp only [bnd]
      omega
    refine seq (asg_e k1 rfl) (seq (asg_e (add_lst rfl (k2 _ _) (s_get _ _) ?_) rfl) (seq (asg_e (add_lst rfl (k3 _ _) (s_get _ _) ?_) rfl) (seq (ρ1 := ρ') (S1 := S') ?_ (ret_e ?_))))
    · rw [e0, e1]
      unfold line
      omega
    · rw [List.length_append, e0, e1, e2]
      unfold line
      omega
    · have el : (S ++ [Cell.lst (p.st.map fun s => D.str (stL s))] ++ [Cell.lst ((p.st.map fun s => D.str (stL s)) ++ p.jo.map fun s => D.str (joL s))]).length = S.length + 2 := by simp
      rw [el]
      exact e4
    · simp only [evE, eρ]
  rw [z, eS]
  simp [rows, List.map_append, List.map_map, Function.comp_def]
theorem is_written_ok {p : Plan} (h : p.ok) (S : Store) : F__law_is_written [p.d] S = .ok (.bl true) S := by
  obtain ⟨c0, c1, hl⟩ := law_lines_ok h S
  have e : evE T__law_is_written (.mt .join (.lit (.str "\n")) [.call 0 [.var 0]]) [some p.d, none, none] S = .ok (.str (text p)) (S ++ [c0, c1, .lst ((rows p).map D.str)]) := by
    refine join_e (ds := (rows p).map D.str) rfl (call1 rfl rfl hl) ?_ (txts_map _) (text_fits h)
    show lstOf _ (.ref (S.length + 2)) = _
    simp [lstOf]
  exact fn_app (seq (asg_e (tup2 e (call1 rfl rfl (plan_text_ok h _))) rfl) (seq ((ite_f (or_none (mem3 (not_t rfl) (ne_str_f rfl rfl) (ne_str_f (by exact plan_text_ok h _) rfl)))).trans nil_e) (ret_e (eq_str_t (call1 rfl rfl (plan_text_ok h _)) rfl)))) (by simp only [bnd])

/-! ### the deck -/
def dk (cells : List Int) (m k : Int) (R : Store) : Store := .lst (cells.map D.int) :: .dK [(.inr "cells", .ref 0), (.inr "mixed", .int m), (.inr "draws", .int k)] false :: R
def Dk (R S : Store) : Prop := ∃ cells m k, cells.length ≤ 63 ∧ S = dk cells m k R
theorem dk_draws (cells : List Int) (m k : Int) (R : Store) (ρ : Env) : evS T__law_draw (.sub (.var 0) (.lit (.str "draws")) (.bin .add true (.idx (.var 0) (.lit (.str "draws"))) (.lit (.int 1)))) (some (.ref 1) :: ρ) (dk cells m k R) = .ok (.nx (some (.ref 1) :: ρ)) (dk cells m (k + 1) R) := rfl
def d4 : S := .asg (.nm 2) (.bin .mod false (.bi .int false [.bin .add false (.bin .mul false (.var 2) (.lit (.int 39373))) (.lit (.int 67))]) (.lit (.int 2147483647)))
def d5 : S := .asg (.nm 2) (.bin .mod false (.bi .int false [.bin .add false (.bin .add false (.bin .mul false (.var 2) (.var 2)) (.bin .mul false (.lit (.int 52713)) (.idx (.var 0) (.lit (.str "draws"))))) (.lit (.int 29))]) (.lit (.int 2147483587)))
def d6 : S := .asg (.nm 2) (.bin .mod false (.bi .int false [.bin .mul false (.var 2) (.lit (.int 40692))]) (.lit (.int 2147483563)))
def d7 : S := .ret (.bin .mod false (.bi .int false [.bin .fdiv false (.var 2) (.lit (.int 64))]) (.var 1))
theorem draw_tail {many : Int} (h : 0 < many) (number : Int) (c3 : Option D) (cells : List Int) (m k : Int) (R : Store) :
    ∃ r, evSs T__law_draw [d4, d5, d6, d7] [some (.ref 1), some (.int many), some (.int number), c3] (dk cells m k R) = .ok (.rt (.int r)) (dk cells m k R) ∧ 0 ≤ r ∧ r < many := by
  have h4 := fmod_in (i := number * 39373 + 67) (j := 2147483647) (by decide)
  refine ⟨_, seq (asg_e (mod_i (int_i (add_i (mul_i rfl rfl (.inr (by decide))) rfl)) rfl (by decide)) rfl)
    (seq (asg_e (mod_i (int_i (add_i (add_i (mul_i rfl rfl (.inl ?_)) (mul_i (j := k) rfl rfl (.inl (by decide)))) rfl)) rfl (by decide)) rfl)
      (seq (asg_e (mod_i (int_i (mul_i rfl rfl (.inr (by decide)))) rfl (by decide)) rfl)
        (ret_e (mod_i (int_i (fdiv_i rfl rfl (by decide))) rfl (by omega))))), fmod_in h⟩
  omega
theorem cells_e (ρ : Env) (cells : List Int) (m k : Int) (R : Store) : evE T__law_draw (.cmp .ne (.idx (.var 0) (.lit (.str "cells"))) (.lst false [])) (some (.ref 1) :: ρ) (dk cells m k R) = .ok (.bl (!cells.isEmpty)) (dk cells m k R) := by
  show (if fit 60 (.lst (cells.map D.int)) && fit 60 (.lst []) then Res.ok (D.bl (!eqv (.lst (cells.map D.int)) (.lst []))) (dk cells m k R) else .stuck) = _
  have e : fit 60 (.lst (cells.map D.int)) = true := fits_ints 59 cells
  rw [e]
  cases cells with
  | nil => rfl
  | cons a l => rfl
theorem pop_e (ρ : Env) (l : List Int) (x m k : Int) (R : Store) : evE T__law_draw (.mt .pop (.idx (.var 0) (.lit (.str "cells"))) []) (some (.ref 1) :: ρ) (dk (l ++ [x]) m k R) = .ok (.int x) (dk l m k R) := by
  show mtSem .pop (.ref 0) [] (dk (l ++ [x]) m k R) = _
  have e1 : ((l ++ [x]).map D.int)[((l ++ [x]).map D.int).length - 1]? = some (.int x) := by simp
  have e2 : ((l ++ [x]).map D.int).dropLast = l.map D.int := by simp
  show (match ((l ++ [x]).map D.int)[((l ++ [x]).map D.int).length - 1]? with
    | some d => Res.ok d ((dk (l ++ [x]) m k R).set 0 (.lst ((l ++ [x]).map D.int).dropLast))
    | none => .stuck) = _
  rw [e1, e2]
  rfl
theorem draw_ok {R S : Store} {many : Int} (hS : Dk R S) (h : 0 < many) (h2 : many < 1000000000) : ∃ r S', F__law_draw [.ref 1, .int many] S = .ok (.int r) S' ∧ Dk R S' ∧ 0 ≤ r ∧ r < many := by
  obtain ⟨cells, m, k, hl, rfl⟩ := hS
  have fin : ∀ {r : Int} {cells' : List Int}, evSs T__law_draw b__law_draw [some (.ref 1), some (.int many), none, none] (dk cells m k R) = .ok (.rt (.int r)) (dk cells' m (k + 1) R) → F__law_draw [.ref 1, .int many] (dk cells m k R) = .ok (.int r) (dk cells' m (k + 1) R) := fun {r cells'} e => by
    refine fn_mod (l := []) (by rw [List.append_nil]; exact e) rfl (by simp only [bnd]) fun i hi => ?_
    match i with
    | 0 => exact .inr ⟨_, rfl, flats_bnd _ (by rw [flatDs_all, List.all_map, List.all_eq_true]; exact fun _ _ => rfl)⟩
    | 1 => exact .inr ⟨_, rfl, by
        show bnds _ [D.ref 0, D.int m, D.int (k + 1)]
        simp [bnds, bnd, dk]⟩
    | i + 2 => exact .inl rfl
  have e2 : evS T__law_draw (.asg (.nm 2) (.bin .add false (.idx (.var 0) (.lit (.str "mixed"))) (.bin .mul false (.lit (.int 61473)) (.idx (.var 0) (.lit (.str "draws")))))) [some (.ref 1), some (.int many), none, none] (dk cells m (k + 1) R) = .ok (.nx [some (.ref 1), some (.int many), some (.int (m + 61473 * (k + 1))), none]) (dk cells m (k + 1) R) :=
    asg_e (add_i (i := m) rfl (mul_i (j := k + 1) rfl rfl (.inl (by decide)))) rfl
  rcases List.eq_nil_or_concat cells with rfl | ⟨l, x, ec⟩
  · obtain ⟨r, er, hr⟩ := draw_tail h (m + 61473 * (k + 1)) none [] m (k + 1) R
    exact ⟨r, _, fin (seq (dk_draws _ _ _ _ _) (seq e2 (seq ((ite_f (by exact cells_e _ [] _ _ _)).trans nil_e) er))), ⟨[], m, k + 1, Nat.zero_le _, rfl⟩, hr⟩
  · rw [List.concat_eq_append] at ec
    subst ec
    have hl2 : l.length + 1 ≤ 63 := by simpa using hl
    have hne : (l ++ [x]).isEmpty = false := by simp
    have hce : ∀ ρ : Env, evE T__law_draw (.cmp .ne (.idx (.var 0) (.lit (.str "cells"))) (.lst false [])) (some (.ref 1) :: ρ) (dk (l ++ [x]) m (k + 1) R) = .ok (.bl true) (dk (l ++ [x]) m (k + 1) R) := fun ρ => by
      rw [cells_e, hne]
      rfl
    have hge : ∀ ρ : Env, evE T__law_draw (.cmp .ge (.var 3) (.bin .pow false (.lit (.int 10)) (.lit (.int 18)))) [some (.ref 1), some (.int many), some (.int (m + 61473 * (k + 1))), some (.int x)] (dk l m (k + 1) R) = .ok (.bl (decide ((10 : Int) ^ 18 ≤ x))) (dk l m (k + 1) R) := fun ρ =>
      ge_i (j := (10 : Int) ^ 18) rfl rfl
    by_cases hx : (10 : Int) ^ 18 ≤ x
    · obtain ⟨v, ev⟩ : ∃ v : Int, evE T__law_draw (.bin .fdiv false (.var 3) (.bi .max2 false [.lit (.int 2), .var 1])) [some (.ref 1), some (.int many), some (.int (m + 61473 * (k + 1))), some (.int x)] (dk l m (k + 1) R) = .ok (.int v) (dk l m (k + 1) R) :=
        ⟨_, fdiv_i rfl (max_i rfl rfl) (by split <;> omega)⟩
      refine ⟨x.fmod many, dk (l ++ [v]) m (k + 1) R, fin ?_, ⟨l ++ [v], m, k + 1, by simpa using hl2, rfl⟩, fmod_in h⟩
      rw [decide_eq_true hx] at hge
      have ea : (dk l m (k + 1) R).set 0 (.lst (l.map D.int ++ [.int v])) = dk (l ++ [v]) m (k + 1) R := by
        show Cell.lst (l.map D.int ++ [.int v]) :: _ = Cell.lst ((l ++ [v]).map D.int) :: _
        rw [List.map_append]
        rfl
      refine seq (dk_draws _ _ _ _ _) (seq e2 (seq_rt ((ite_t (hce _)).trans (seq (asg_e (pop_e _ _ _ _ _ _) rfl) (seq_rt ((ite_t (hge [])).trans (seq (expr_e (append_e (ds := l.map D.int) rfl ev rfl ?_)) (?_ : _ = _))))))))
      · rw [List.length_map]
        unfold line
        omega
      · rw [ea]
        exact ret_e (mod_i (int_i rfl) rfl (by omega))
    · rw [decide_eq_false hx] at hge
      obtain ⟨r, er, hr⟩ := draw_tail h (m + 61473 * (k + 1) + x.fmod 2147483629) (some (.int x)) l m (k + 1) R
      refine ⟨r, _, fin (seq (dk_draws _ _ _ _ _) (seq e2 (seq ((ite_t (hce _)).trans (seq (asg_e (pop_e _ _ _ _ _ _) rfl) (seq ((ite_f (hge [])).trans nil_e) (seq (asg_e (add_i (i := m + 61473 * (k + 1)) rfl (mod_i (j := 2147483629) (int_i rfl) rfl (by decide))) rfl) nil_e)))) er))), ⟨l, m, k + 1, by omega, rfl⟩, hr⟩
end K02

set_option linter.all false
set_option autoImplicit false
set_option maxRecDepth 100000
set_option maxHeartbeats 1000000
namespace K02
open PySem (Str)
open Cl

/-! ### a def over the deck -/
theorem dk_len {R S : Store} (h : Dk R S) : S.length = R.length + 2 := by
  obtain ⟨cells, m, k, _, rfl⟩ := h
  rfl
theorem dk_get {R S : Store} (h : Dk R S) (i : Nat) : S[i + 2]? = R[i]? := by
  obtain ⟨cells, m, k, _, rfl⟩ := h
  rfl
theorem dk_set {R S : Store} (h : Dk R S) (i : Nat) (c : Cell) : Dk (R.set i c) (S.set (i + 2) c) := by
  obtain ⟨cells, m, k, hl, rfl⟩ := h
  exact ⟨cells, m, k, hl, rfl⟩
theorem dk_app {R S : Store} (h : Dk R S) (l : Store) : Dk (R ++ l) (S ++ l) := by
  obtain ⟨cells, m, k, hl, rfl⟩ := h
  exact ⟨cells, m, k, hl, rfl⟩
theorem dk_cut {R S l : Store} (h : Dk (R ++ l) S) : ∃ S2, Dk R S2 ∧ S = S2 ++ l := by
  obtain ⟨cells, m, k, hl, rfl⟩ := h
  exact ⟨dk cells m k R, ⟨cells, m, k, hl, rfl⟩, rfl⟩
theorem dk_fn {Φ : Tab} {R R' S S1 l : Store} {n : Nat} {b : List Cl.S} {ds : List D} {d : D} (hS : Dk R S) (h : evSs Φ b (ds.map some ++ List.replicate (n - ds.length) none) S = .ok (.rt d) S1) (h1 : Dk (R' ++ l) S1) (hl : R'.length = R.length) (hd : bnd (R.length + 2) d)
    (hR : ∀ i, i < R.length → R'[i]? = R[i]? ∨ ∃ c, R'[i]? = some c ∧ cbnd (R.length + 2) c) : ∃ S2, evF Φ n b ds S = .ok d S2 ∧ Dk R' S2 := by
  obtain ⟨S2, h2, rfl⟩ := dk_cut h1
  refine ⟨S2, fn_mod h (by rw [dk_len h2, dk_len hS, hl]) (by rw [dk_len hS]; exact hd) fun i hi => ?_, h2⟩
  obtain ⟨cells, m, k, _, rfl⟩ := hS
  obtain ⟨cells', m', k', _, rfl⟩ := h2
  match i, hi with
  | 0, _ => exact .inr ⟨_, rfl, flats_bnd _ (by rw [flatDs_all, List.all_map, List.all_eq_true]; exact fun _ _ => rfl)⟩
  | 1, _ => exact .inr ⟨_, rfl, by
      show bnds _ [D.ref 0, D.int m', D.int k']
      simp [bnds, bnd, dk]⟩
  | i + 2, hi => exact hR i (by simpa [dk] using hi)
theorem dk_fn0 {Φ : Tab} {R S S1 : Store} {n : Nat} {b : List Cl.S} {ds : List D} {d : D} (hS : Dk R S) (h : evSs Φ b (ds.map some ++ List.replicate (n - ds.length) none) S = .ok (.rt d) S1) (h1 : Dk R S1) (hd : flatD d = true) : ∃ S2, evF Φ n b ds S = .ok d S2 ∧ Dk R S2 :=
  dk_fn (l := []) hS h (by rw [List.append_nil]; exact h1) rfl (flat_bnd _ hd) fun i _ => .inl rfl
/-- a list that the draws do not touch -/
def Lst (R : Store) (x : D) (ds : List D) : Prop := x = .lst ds ∨ ∃ j, x = .ref (j + 2) ∧ R[j]? = some (.lst ds)
theorem Lst.seq {R S : Store} {x : D} {ds : List D} (h : Lst R x ds) (hS : Dk R S) : seqOf S x = some ds := by
  rcases h with rfl | ⟨j, rfl, hj⟩
  · rfl
  · show lstOf S (.ref (j + 2)) = _
    simp only [lstOf, dk_get hS, hj]
theorem len_e {Φ : Tab} {ρ : Env} {S : Store} {a : E} {x : D} {ds : List D} (ha : evE Φ a ρ S = .ok x S) (h : lstOf S x = some ds) : evE Φ (.bi .len false [a]) ρ S = .ok (.int ds.length) S := by
  simp only [evE, evEs, ha, Res.bind_ok]
  cases x with
  | lst es =>
    cases h
    rfl
  | ref n =>
    show (match lstOf S (.ref n) with
      | some ds => Res.ok (D.int ds.length) S
      | none => .stuck) = _
    rw [h]
  | _ => cases h
theorem Lst.lst {R S : Store} {x : D} {ds : List D} (h : Lst R x ds) (hS : Dk R S) : lstOf S x = some ds := by
  rcases h with rfl | ⟨j, rfl, hj⟩
  · rfl
  · simp only [lstOf, dk_get hS, hj]
theorem at_int {α : Type} {l : List α} {r : Int} (h0 : 0 ≤ r) (h1 : r < l.length) : ∃ x, atI l r = some x ∧ l[r.toNat]? = some x := by
  have : r.toNat < l.length := by omega
  refine ⟨l[r.toNat], ?_, List.getElem?_eq_getElem this⟩
  unfold atI ixN
  rw [if_pos h0, if_pos h1]
  exact List.getElem?_eq_getElem this
theorem get_lst {R S : Store} {x : D} {ds : List D} {r : Int} {d : D} (h : Lst R x ds) (hS : Dk R S) (e : atI ds r = some d) : getitem x (.int r) S = .ok d S := by
  rcases h with rfl | ⟨j, rfl, hj⟩
  · show (match atI ds r with
      | some d => Res.ok d S
      | none => .stuck) = _
    rw [e]
  · show (match lstOf S (.ref (j + 2)) with
      | some ds => (match atI ds r with
        | some d => Res.ok d S
        | none => .stuck)
      | none => (match dget S (.ref (j + 2)) (.int r) with
        | .some d => Res.ok d S
        | _ => .stuck)) = _
    have : lstOf S (.ref (j + 2)) = some ds := Lst.lst (.inr ⟨j, rfl, hj⟩) hS
    rw [this]
    simp only [e]
theorem pick_ok {R S : Store} {x : D} {ds : List D} (hS : Dk R S) (hx : Lst R x ds) (h0 : ds ≠ []) (hl : ds.length < 1000000000) (hf : ∀ d ∈ ds, flatD d = true) : ∃ d S', F__law_pick [.ref 1, x] S = .ok d S' ∧ d ∈ ds ∧ Dk R S' := by
  have hp : 0 < ds.length := List.length_pos_iff.mpr h0
  obtain ⟨r, S1, er, h1, hr⟩ := draw_ok hS (many := (ds.length : Int)) (by omega) (by omega)
  obtain ⟨d, e1, e2⟩ := at_int (l := ds) hr.1 hr.2
  have hm := List.mem_of_getElem? e2
  obtain ⟨S2, e3, h2⟩ := dk_fn0 (Φ := T__law_pick) (b := b__law_pick) (n := 2) (ds := [.ref 1, x]) (d := d) (S1 := S1) hS (ret_e (idx_e rfl (call2 rfl rfl (len_e rfl (hx.lst hS)) er) (get_lst hx h1 e1))) h1 (hf d hm)
  exact ⟨d, S2, e3, hm, h2⟩
end K02

set_option linter.all false
set_option autoImplicit false
set_option maxRecDepth 100000
set_option maxHeartbeats 1000000
namespace K02
open PySem (Str)
open Cl

theorem cps_app (a b : Str) : (a ++ b).cps.toList = a.cps.toList ++ b.cps.toList := by
  show (a.cps ++ b.cps).toList = _
  rw [Array.toList_append]
theorem getD_list (x : Str) : x.cps.getD 0 0 = x.cps.toList.headD 0 := by
  obtain ⟨⟨l⟩⟩ := x
  cases l <;> rfl
theorem len_list (x : Str) : x.length = x.cps.toList.length := rfl
/-- by the list of its signs -/
def nm (l : List Nat) : Bool := decide (1 ≤ l.length) && decide (l.length ≤ 8) && decide (l.headD 0 ∈ letters.cps.toList) && l.all fun c => decide (c ∈ signs.cps.toList)
theorem nm_ok {x : Str} (h : nm x.cps.toList = true) : NameOk x := by
  unfold nm at h
  simp only [Bool.and_eq_true, decide_eq_true_eq, List.all_eq_true] at h
  exact ⟨h.1.1.1, h.1.1.2, by rw [getD_list]; exact h.1.2, h.2⟩
theorem NameOk.nm {x : Str} (h : NameOk x) : nm x.cps.toList = true := by
  unfold K02.nm
  simp only [Bool.and_eq_true, decide_eq_true_eq, List.all_eq_true]
  exact ⟨⟨⟨h.lo, h.hi⟩, by rw [← getD_list]; exact h.first⟩, h.all⟩
theorem NameOk.flat {x : Str} (h : NameOk x) : flatD (.str x) = true := rfl

/-! ### a sign of the row -/
theorem signs36 : signs.cps.toList.length = 36 := rfl
theorem pick36 {r : Int} (h0 : 0 ≤ r) (h1 : r < 36) (S : Store) : ∃ c, getitem (.str signs) (.int r) S = .ok (.str (sign c)) S ∧ c ∈ signs.cps.toList := by
  obtain ⟨c, e1, e2⟩ := at_int (l := signs.cps.toList) h0 (by rw [signs36]; exact h1)
  exact ⟨c, by simp only [getitem, e1], List.mem_of_getElem? e2⟩
theorem take26 : signs.cps.toList.take 26 = letters.cps.toList := by decide
theorem pick26 {r : Int} (h0 : 0 ≤ r) (h1 : r < 26) (S : Store) : ∃ c, getitem (.str signs) (.int r) S = .ok (.str (sign c)) S ∧ c ∈ letters.cps.toList := by
  obtain ⟨c, e1, e2⟩ := at_int (l := signs.cps.toList) h0 (by rw [signs36]; omega)
  refine ⟨c, by simp only [getitem, e1], ?_⟩
  rw [← take26]
  refine List.mem_of_getElem? (i := r.toNat) ?_
  rw [List.getElem?_take_of_lt (by omega)]
  exact e2

/-! ### comprehensions over draws -/
theorem rng1_e {Φ : Tab} {ρ : Env} {S S1 : Store} {a : E} {n : Int} (ha : evE Φ a ρ S = .ok (.int n) S1) (h0 : 0 ≤ n) (h1 : n ≤ 1000000) : evIt Φ (.rng1 a) ρ S = .ok ⟨(List.range n.toNat).map fun (k : Nat) => .int k, none⟩ S1 := by
  simp only [evIt]
  rw [ha, Res.bind_ok]
  simp only [toI, Res.bind_ok]
  rw [if_pos (by unfold line; omega)]
theorem lcL_dk {R : Store} {f : D → Store → Res (Option D)} {P : D → Prop} : ∀ {items : List D} {S : Store}, Dk R S → (∀ d ∈ items, ∀ S, Dk R S → ∃ y S', f d S = .ok (some y) S' ∧ Dk R S' ∧ P y) →
    ∃ ys S', lcL ⟨items, none⟩ f items S = .ok ys S' ∧ Dk R S' ∧ ys.length = items.length ∧ ∀ y ∈ ys, P y := by
  intro items
  have go : ∀ (J : Itr), J.cell = none → ∀ {items : List D} {S : Store}, Dk R S → (∀ d ∈ items, ∀ S, Dk R S → ∃ y S', f d S = .ok (some y) S' ∧ Dk R S' ∧ P y) →
      ∃ ys S', lcL J f items S = .ok ys S' ∧ Dk R S' ∧ ys.length = items.length ∧ ∀ y ∈ ys, P y := fun J hJ => by
    have hst : ∀ S, J.st S := fun S => by
      unfold Itr.st
      rw [hJ]
      trivial
    intro items
    induction items with
    | nil => exact fun {S} hS _ => ⟨[], S, by rw [lcL, if_pos (hst S)], hS, rfl, fun _ m => nomatch m⟩
    | cons d ds ih =>
      intro S hS h
      obtain ⟨y, S1, e1, h1, p1⟩ := h d (List.mem_cons_self ..) S hS
      obtain ⟨ys, S2, e2, h2, hl, p2⟩ := ih h1 fun e m => h e (List.mem_cons_of_mem _ m)
      refine ⟨y :: ys, S2, ?_, h2, by rw [List.length_cons, List.length_cons, hl], fun z m => ?_⟩
      · rw [lcL, if_pos (hst S), e1, Res.bind_ok, e2, Res.bind_ok]
        rfl
      · rcases List.mem_cons.mp m with rfl | m
        · exact p1
        · exact p2 z m
  exact fun {S} => go ⟨items, none⟩ rfl
theorem lc_dk {Φ : Tab} {R S S1 : Store} {ρ : Env} {own : List Nat} {t : Tg} {it el : E} {items : List D} {P : D → Prop} (h1 : evIt Φ it ρ S = .ok ⟨items, none⟩ S1) (hS1 : Dk R S1)
    (h2 : ∀ d ∈ items, ∀ S, Dk R S → ∃ ρ2 y S', asgT t d (wipe ρ own) = some ρ2 ∧ evE Φ el ρ2 S = .ok y S' ∧ Dk R S' ∧ P y) :
    ∃ ys S', evE Φ (.lc false el t it none own) ρ S = .ok (.lst ys) S' ∧ Dk R S' ∧ ys.length = items.length ∧ ∀ y ∈ ys, P y := by
  obtain ⟨ys, S2, e, h⟩ := lcL_dk (items := items) (P := P) (f := fun d S2 => match asgT t d (wipe ρ own) with
      | none => .stuck
      | some ρ2 => (evIf Φ none ρ2 S2).bind fun b S3 => if b then (evE Φ el ρ2 S3).bind fun y S4 => .ok (some y) S4 else .ok none S3) hS1 fun d m S hS => by
    obtain ⟨ρ2, y, S', e1, e2, h3, p⟩ := h2 d m S hS
    exact ⟨y, S', by simp only [e1, evIf, Res.bind_ok, if_true, e2], h3, p⟩
  refine ⟨ys, S2, ?_, h⟩
  simp only [evE]
  rw [h1, Res.bind_ok]
  exact congrArg (fun r : Res (List D) => r.nox.bind fun ds S2 => mk false ds S2) e
theorem join_signs : ∀ cs : List Nat, (Str.join "" (cs.map sign)).cps.toList = cs
  | [] => rfl
  | [c] => rfl
  | c :: d :: cs => by
    have ih := join_signs (d :: cs)
    show ((sign c ++ "") ++ Str.join "" (sign d :: cs.map sign)).cps.toList = _
    rw [cps_app, cps_app]
    show [c] ++ [] ++ _ = _
    rw [show (Str.join "" (sign d :: cs.map sign)).cps.toList = d :: cs from ih]
    rfl
theorem strs_of {P : Nat → Prop} : ∀ {ys : List D}, (∀ y ∈ ys, ∃ c, y = .str (sign c) ∧ P c) → ∃ cs : List Nat, ys = (cs.map sign).map D.str ∧ ∀ c ∈ cs, P c
  | [], _ => ⟨[], rfl, fun _ m => nomatch m⟩
  | y :: ys, h => by
    obtain ⟨c, e, p⟩ := h y (List.mem_cons_self ..)
    obtain ⟨cs, e2, p2⟩ := strs_of fun z m => h z (List.mem_cons_of_mem _ m)
    refine ⟨c :: cs, by rw [e, e2]; rfl, fun d m => ?_⟩
    rcases List.mem_cons.mp m with rfl | m
    · exact p
    · exact p2 d m

/-! ### used names -/
theorem in_used {R S : Store} {u : Nat} {names : List Str} (hS : Dk R S) (hu : R[u]? = some (.lst (names.map .str))) (x : Str) : cmpop .in_ (.str x) (.ref (u + 2)) S = .ok (.bl (names.any fun n => n == x)) S := by
  have hl : lstOf S (.ref (u + 2)) = some (names.map .str) := Lst.lst (.inr ⟨u, rfl, hu⟩) hS
  have hf : fits 60 (names.map D.str) = true := by
    rw [fits_all, List.all_map, List.all_eq_true]
    exact fun _ _ => rfl
  show (match lstOf S (.ref (u + 2)) with
    | some ds => if fit 60 (.str x) && fits 60 ds then Res.ok (D.bl (ds.any fun d => eqv d (.str x))) S else .stuck
    | none => match dget S (.ref (u + 2)) (.str x) with
      | .no => .stuck
      | .none => .ok (.bl false) S
      | .some _ => .ok (.bl true) S) = _
  rw [hl]
  simp only [hf]
  show Res.ok (D.bl ((names.map D.str).any fun d => eqv d (.str x))) S = _
  rw [List.any_map]
  rfl
theorem notin_used {R S : Store} {u : Nat} {names : List Str} (hS : Dk R S) (hu : R[u]? = some (.lst (names.map .str))) (x : Str) : cmpop .notin (.str x) (.ref (u + 2)) S = .ok (.bl (!names.any fun n => n == x)) S := by
  have hl : lstOf S (.ref (u + 2)) = some (names.map .str) := Lst.lst (.inr ⟨u, rfl, hu⟩) hS
  have hf : fits 60 (names.map D.str) = true := by
    rw [fits_all, List.all_map, List.all_eq_true]
    exact fun _ _ => rfl
  show (match lstOf S (.ref (u + 2)) with
    | some ds => if fit 60 (.str x) && fits 60 ds then Res.ok (D.bl (!ds.any fun d => eqv d (.str x))) S else .stuck
    | none => match dget S (.ref (u + 2)) (.str x) with
      | .no => .stuck
      | .none => .ok (.bl true) S
      | .some _ => .ok (.bl false) S) = _
  rw [hl]
  simp only [hf]
  show Res.ok (D.bl (!(names.map D.str).any fun d => eqv d (.str x))) S = _
  rw [List.any_map]
  rfl
/-- more boxes than pigeons -/
theorem pigeon : ∀ {l m : List Str}, l.Nodup → (∀ x ∈ l, x ∈ m) → l.length ≤ m.length
  | [], _, _, _ => Nat.zero_le _
  | x :: l, m, hd, h => by
    have hx := h x (List.mem_cons_self ..)
    rw [List.nodup_cons] at hd
    have := pigeon (l := l) (m := m.erase x) hd.2 fun y hy => by
      have hne : y ≠ x := fun e => hd.1 (e ▸ hy)
      exact (List.mem_erase_of_ne hne).mpr (h y (List.mem_cons_of_mem _ hy))
    rw [List.length_erase_of_mem hx] at this
    have hp : 0 < m.length := List.length_pos_of_mem hx
    rw [List.length_cons]
    omega
def spares : List Str := (List.range 60).map fun (k : Nat) => ("x" : Str) ++ num (k : Int)
theorem spares_nodup : spares.Nodup := by decide +kernel
theorem spares_ok : ∀ x ∈ spares, nm x.cps.toList = true := by decide +kernel
theorem spare_there {names : List Str} (h : names.length < 60) : spares.filter (fun x => !names.any fun n => n == x) ≠ [] := by
  intro e
  have : ∀ x ∈ spares, x ∈ names := fun x hx => by
    have h1 : x ∉ spares.filter (fun x => !names.any fun n => n == x) := by rw [e]; exact fun m => nomatch m
    rw [List.mem_filter] at h1
    have h2 : (names.any fun n => n == x) = true := by
      cases q : names.any fun n => n == x with
      | true => rfl
      | false => exact absurd ⟨hx, by rw [q]; rfl⟩ h1
    obtain ⟨n, hn, e⟩ := List.any_eq_true.mp h2
    rw [← eq_of_beq e]
    exact hn
  have := pigeon spares_nodup this
  have hl : spares.length = 60 := by simp [spares]
  omega
end K02

set_option linter.all false
set_option autoImplicit false
set_option maxRecDepth 100000
set_option maxHeartbeats 1000000
namespace K02
open PySem (Str)
open Cl

theorem log60 : ∀ k < 60, ((k : Nat) : Int).natAbs.log2 < 1920 := by decide
def spareE : E := .lc false (.var 7) (.nm 7) (.walk (.lc false (.bin .add false (.lit (.str "x")) (.bi .str false [.var 6])) (.nm 6) (.rng1 (.lit (.int 60))) none [6])) (some (.cmp .notin (.var 7) (.var 1))) [7]
theorem spare_e {R S : Store} {u : Nat} {names : List Str} (hS : Dk R S) (hu : R[u]? = some (.lst (names.map .str))) (a b c d e f : Option D) :
    evE T__law_name spareE [a, some (.ref (u + 2)), b, c, d, e, f, none] S = .ok (.lst ((spares.filter fun x => !names.any fun n => n == x).map D.str)) S := by
  have h1 : ∀ g : Option D, evE T__law_name (.lc false (.bin .add false (.lit (.str "x")) (.bi .str false [.var 6])) (.nm 6) (.rng1 (.lit (.int 60))) none [6]) [a, some (.ref (u + 2)), b, c, d, e, g, none] S = .ok (.lst (spares.map D.str)) S := fun g => by
    refine (lc_map (xs := List.range 60) (cl := none) (fun k : Nat => D.int (k : Int)) (fun k : Nat => D.str (("x" : Str) ++ num (k : Int))) (rng1_e (n := 60) rfl (by decide) (by decide)) trivial fun k m => ⟨_, rfl, ?_⟩).trans ?_
    · have hk := List.mem_range.mp m
      refine add_str rfl (str_i rfl (log60 k hk)) ?_
      have := (nm_ok (spares_ok _ (List.mem_map.mpr ⟨k, m, rfl⟩))).hi
      unfold line
      omega
    · unfold mk spares
      rw [List.map_map]
      rfl
  refine (lc_eqF (items := spares.map D.str) (cl := none) (fun y => match y with
    | .str x => !names.any fun n => n == x
    | _ => false) id ?_ trivial fun y m => ?_).trans ?_
  · simp only [evIt]
    rw [h1, Res.bind_ok]
    rfl
  · obtain ⟨x, hx, rfl⟩ := List.mem_map.mp m
    exact ⟨_, rfl, notin_used hS hu x, fun _ => rfl⟩
  · unfold mk
    rw [List.map_id, List.filter_map]
    rfl
theorem name_end {R S : Store} {u : Nat} {names : List Str} (hS : Dk R S) (hu : R[u]? = some (.lst (names.map .str))) (hn : names.length < 60) {x0 : Str} (h0 : NameOk x0) (b c d e f : Option D) :
    ∃ x S', evSs T__law_name [.ite (.cmp .in_ (.var 4) (.var 1)) [.asg (.nm 4) (.idx spareE (.lit (.int 0)))] [], .expr (.mt .append (.var 1) [.var 4]), .ret (.var 4)] [some (.ref 1), some (.ref (u + 2)), b, c, some (.str x0), e, f, none] S = .ok (.rt (.str x)) S' ∧
      NameOk x ∧ x ∉ names ∧ Dk (R.set u (.lst ((names ++ [x]).map .str))) S' := by
  have fin : ∀ {x : Str}, evS T__law_name (.ite (.cmp .in_ (.var 4) (.var 1)) [.asg (.nm 4) (.idx spareE (.lit (.int 0)))] []) [some (.ref 1), some (.ref (u + 2)), b, c, some (.str x0), e, f, none] S = .ok (.nx [some (.ref 1), some (.ref (u + 2)), b, c, some (.str x), e, f, none]) S → NameOk x → x ∉ names →
      ∃ x S', evSs T__law_name [.ite (.cmp .in_ (.var 4) (.var 1)) [.asg (.nm 4) (.idx spareE (.lit (.int 0)))] [], .expr (.mt .append (.var 1) [.var 4]), .ret (.var 4)] [some (.ref 1), some (.ref (u + 2)), b, c, some (.str x0), e, f, none] S = .ok (.rt (.str x)) S' ∧
        NameOk x ∧ x ∉ names ∧ Dk (R.set u (.lst ((names ++ [x]).map .str))) S' := fun {x} h1 h2 h3 => by
    refine ⟨x, S.set (u + 2) (.lst (names.map .str ++ [.str x])), seq h1 (seq (expr_e (append_e (ds := names.map .str) rfl rfl ((dk_get hS u).trans hu) ?_)) (ret_e rfl)), h2, h3, ?_⟩
    · rw [List.length_map]
      unfold line
      omega
    · rw [List.map_append]
      exact dk_set hS u _
  have hin : evE T__law_name (.cmp .in_ (.var 4) (.var 1)) [some (.ref 1), some (.ref (u + 2)), b, c, some (.str x0), e, f, none] S = .ok (.bl (names.any fun n => n == x0)) S := in_used hS hu x0
  cases hq : names.any fun n => n == x0 with
  | false =>
    rw [hq] at hin
    refine fin ((ite_f hin).trans nil_e) h0 fun m => ?_
    have : (names.any fun n => n == x0) = true := List.any_eq_true.mpr ⟨x0, m, by simp⟩
    rw [hq] at this
    cases this
  | true =>
    rw [hq] at hin
    have hne := spare_there hn
    cases hs : spares.filter (fun x => !names.any fun n => n == x) with
    | nil => exact absurd hs hne
    | cons y ys =>
      have hy : y ∈ spares.filter (fun x => !names.any fun n => n == x) := by rw [hs]; exact List.mem_cons_self ..
      obtain ⟨hy1, hy2⟩ := List.mem_filter.mp hy
      have se := spare_e hS hu (some (.ref 1)) b c (some (.str x0)) e f
      rw [hs] at se
      have hg : getitem (.lst ((y :: ys).map D.str)) (.int 0) S = .ok (.str y) S := by
        obtain ⟨z, e1, e2⟩ := at_int (l := (y :: ys).map D.str) (r := 0) (Int.le_refl 0) (by simp)
        have : z = .str y := by simpa using e2.symm
        subst this
        exact get_lst (R := R) (.inl rfl) hS e1
      refine fin ((ite_t hin).trans (seq (asg_e (d := .str y) (idx_e se rfl hg) rfl) nil_e)) (nm_ok (spares_ok y hy1)) fun m => ?_
      have : (names.any fun n => n == y) = true := List.any_eq_true.mpr ⟨y, m, by simp⟩
      rw [this] at hy2
      cases hy2

/-! ### a new name -/
theorem lett_sign {c : Nat} (h : c ∈ letters.cps.toList) : c ∈ signs.cps.toList := by
  rw [← take26] at h
  exact List.mem_of_mem_take h
def allS (l : List Nat) : Bool := l.all fun c => decide (c ∈ signs.cps.toList)
theorem mid_ok {p s : List Nat} {c : Nat} (h : (decide (1 ≤ p.length) && decide (p.length + 1 + s.length ≤ 8) && decide (p.headD 0 ∈ letters.cps.toList) && allS p && allS s) = true) (hc : c ∈ signs.cps.toList) : nm (p ++ [c] ++ s) = true := by
  simp only [Bool.and_eq_true, decide_eq_true_eq] at h
  obtain ⟨⟨⟨⟨h1, h2⟩, h3⟩, h4⟩, h5⟩ := h
  unfold nm
  simp only [Bool.and_eq_true, decide_eq_true_eq, List.length_append, List.length_cons, List.length_nil]
  refine ⟨⟨⟨by omega, by omega⟩, ?_⟩, ?_⟩
  · cases p with
    | nil => simp at h1
    | cons a p => exact h3
  · rw [List.all_append, List.all_append]
    unfold allS at h4 h5
    rw [h4, h5]
    simpa using hc
theorem lead_ok {s : List Nat} {c : Nat} (hc : c ∈ letters.cps.toList) (hl : s.length ≤ 7) (hs : ∀ d ∈ s, d ∈ signs.cps.toList) : nm ([c] ++ s) = true := by
  unfold nm
  simp only [Bool.and_eq_true, decide_eq_true_eq, List.length_append, List.length_cons, List.length_nil, List.all_eq_true]
  refine ⟨⟨⟨by omega, by omega⟩, hc⟩, fun d m => ?_⟩
  rcases List.mem_append.mp m with m | m
  · rw [List.mem_singleton] at m
    rw [m]
    exact lett_sign hc
  · exact hs d m
def mainl : Str := "mainline"
def preS (k : Int) : Str := ⟨(cut mainl.cps.toList none (some k)).toArray⟩
def sufS (k : Int) : Str := ⟨(cut mainl.cps.toList (some k) none).toArray⟩
theorem main_ok {k : Int} (h0 : 0 < k) (h1 : k < 8) {c : Nat} (hc : c ∈ signs.cps.toList) : NameOk (preS k ++ sign c ++ sufS (k + 1)) := by
  refine nm_ok ?_
  rw [cps_app, cps_app]
  have hk : k = 1 ∨ k = 2 ∨ k = 3 ∨ k = 4 ∨ k = 5 ∨ k = 6 ∨ k = 7 := by omega
  rcases hk with rfl | rfl | rfl | rfl | rfl | rfl | rfl <;> exact mid_ok (by decide) hc
theorem main_ok0 {c : Nat} (hc : c ∈ letters.cps.toList) : NameOk (sign c ++ sufS (0 + 1)) := by
  refine nm_ok ?_
  rw [cps_app]
  exact lead_ok hc (by decide) (by decide)
theorem join_ok {c : Nat} {cs : List Nat} (hc : c ∈ letters.cps.toList) (hl : cs.length ≤ 7) (hs : ∀ d ∈ cs, d ∈ signs.cps.toList) : NameOk (sign c ++ Str.join "" (cs.map sign)) := by
  refine nm_ok ?_
  rw [cps_app, join_signs]
  exact lead_ok hc hl hs
theorem joinLen_signs (cs : List Nat) : joinLen "" (cs.map sign) = cs.length := by
  rw [join_len', List.map_map]
  have e0 : ("" : Str).length = 0 := rfl
  rw [e0, Nat.mul_zero, Nat.add_zero]
  induction cs with
  | nil => rfl
  | cons c cs ih =>
    rw [List.map_cons, List.sum_cons, ih, List.length_cons]
    show 1 + _ = _
    omega
def words : List Str := ["plain", "points", "crossing", "over", "stretch", "join", "gate", "signal", "left", "right"]
theorem words_ok : ∀ x ∈ words, nm x.cps.toList = true := by decide
theorem small_fit {x : Str} (h : NameOk x) : x.length ≤ line := by
  have := h.hi
  unfold line
  omega
theorem name_ok {R S : Store} {u : Nat} {names : List Str} (hS : Dk R S) (hu : R[u]? = some (.lst (names.map .str))) (hn : names.length < 60) :
    ∃ x S', F__law_name [.ref 1, .ref (u + 2)] S = .ok (.str x) S' ∧ NameOk x ∧ x ∉ names ∧ Dk (R.set u (.lst ((names ++ [x]).map .str))) S' := by
  have hul : u < R.length := (List.getElem?_eq_some_iff.mp hu).1
  -- from the def's last part on
  have fin : ∀ {x : Str} {S1 : Store}, evSs T__law_name b__law_name [some (.ref 1), some (.ref (u + 2)), none, none, none, none, none, none] S = .ok (.rt (.str x)) S1 → NameOk x → x ∉ names → Dk (R.set u (.lst ((names ++ [x]).map .str))) S1 →
      ∃ x S', F__law_name [.ref 1, .ref (u + 2)] S = .ok (.str x) S' ∧ NameOk x ∧ x ∉ names ∧ Dk (R.set u (.lst ((names ++ [x]).map .str))) S' := fun {x S1} e h1 h2 h3 => by
    obtain ⟨S2, e2, h4⟩ := dk_fn (Φ := T__law_name) (b := b__law_name) (n := 8) (ds := [.ref 1, .ref (u + 2)]) (l := []) hS e (by rw [List.append_nil]; exact h3) (by simp) (by simp only [bnd]) fun i hi => by
      by_cases q : u = i
      · subst q
        refine .inr ⟨_, List.getElem?_set_self hul, ?_⟩
        show bnds _ ((names ++ [x]).map D.str)
        exact flats_bnd _ (by rw [flatDs_all, List.all_map, List.all_eq_true]; exact fun _ _ => rfl)
      · exact .inl (List.getElem?_set_ne q)
    exact ⟨x, S2, e2, h1, h2, h4⟩
  obtain ⟨way, S1, e1, h1, w0, w1⟩ := draw_ok hS (many := 5) (by omega) (by omega)
  obtain ⟨r, S2, e2, h2, r0, r1⟩ := draw_ok h1 (many := 26) (by omega) (by omega)
  obtain ⟨c, e3, hc⟩ := pick26 r0 r1 S2
  have t1 : evS T__law_name (.asg (.tp [.nm 3, .nm 4]) (.tup [.call 0 [.var 0, .lit (.int 5)], .idx (.var 2) (.call 0 [.var 0, .lit (.int 26)])])) [some (.ref 1), some (.ref (u + 2)), some (.str signs), none, none, none, none, none] S =
      .ok (.nx [some (.ref 1), some (.ref (u + 2)), some (.str signs), some (.int way), some (.str (sign c)), none, none, none]) S2 :=
    asg_e (tup2 (call2 rfl rfl rfl e1) (idx_e rfl (call2 rfl rfl rfl e2) e3)) rfl
  -- the way is gone; then the last part
  have go : ∀ {x0 : Str} {S3 : Store} {a5 a6 : Option D}, Dk R S3 → NameOk x0 → evS T__law_name (.ite (.cmp .eq (.var 3) (.lit (.int 0)))
      [.asg (.nm 5) (.lst false [.lit (.str "plain"), .lit (.str "points"), .lit (.str "crossing"), .lit (.str "over"), .lit (.str "stretch"), .lit (.str "join"), .lit (.str "gate"), .lit (.str "signal"), .lit (.str "left"), .lit (.str "right")]),
        .asg (.nm 4) (.call 1 [.var 0, .var 5])]
      [.ite (.cmp .eq (.var 3) (.lit (.int 1)))
        [.asg (.nm 6) (.call 0 [.var 0, .lit (.int 8)]),
          .asg (.nm 4) (.bin .add false (.ife (.cmp .gt (.var 6) (.lit (.int 0))) (.bin .add false (.sl false (.lit (.str "mainline")) none (some (.var 6))) (.idx (.var 2) (.call 0 [.var 0, .lit (.int 36)]))) (.var 4)) (.sl false (.lit (.str "mainline")) (some (.bin .add false (.var 6) (.lit (.int 1)))) none))]
        [.asg (.nm 4) (.bin .add false (.var 4) (.mt .join (.lit (.str "")) [.lc false (.idx (.var 2) (.call 0 [.var 0, .lit (.int 36)])) (.nm 6) (.rng1 (.call 0 [.var 0, .lit (.int 8)])) none [6]]))]])
      [some (.ref 1), some (.ref (u + 2)), some (.str signs), some (.int way), some (.str (sign c)), none, none, none] S2 = .ok (.nx [some (.ref 1), some (.ref (u + 2)), some (.str signs), some (.int way), some (.str x0), a5, a6, none]) S3 →
      ∃ x S', F__law_name [.ref 1, .ref (u + 2)] S = .ok (.str x) S' ∧ NameOk x ∧ x ∉ names ∧ Dk (R.set u (.lst ((names ++ [x]).map .str))) S' := fun {x0 S3 a5 a6} h3 hx e => by
    obtain ⟨x, S4, e4, k1, k2, k3⟩ := name_end h3 hu hn hx (some (.str signs)) (some (.int way)) none a5 a6
    exact fin (seq (asg_e rfl rfl) (seq t1 (seq e e4))) k1 k2 k3
  by_cases q0 : way = 0
  · subst q0
    obtain ⟨d, S3, e4, hd, h3⟩ := pick_ok h2 (x := .lst (words.map D.str)) (ds := words.map D.str) (.inl rfl) (by decide) (by decide) (fun d m => by
      obtain ⟨x, _, rfl⟩ := List.mem_map.mp m
      rfl)
    obtain ⟨x0, hx0, rfl⟩ := List.mem_map.mp hd
    exact go h3 (nm_ok (words_ok x0 hx0)) ((ite_t (by exact rfl)).trans (seq (asg_e rfl rfl) (seq (asg_e (call2 rfl rfl rfl e4) rfl) nil_e)))
  · have hne : (way == 0) = false := by simpa using q0
    have hw : ∀ (S : Store), evE T__law_name (.cmp .eq (.var 3) (.lit (.int 0))) [some (.ref 1), some (.ref (u + 2)), some (.str signs), some (.int way), some (.str (sign c)), none, none, none] S = .ok (.bl false) S := fun S => by
      rw [← hne]
      exact eq_i rfl rfl
    by_cases q1 : way = 1
    · subst q1
      obtain ⟨k, S3, e4, h3, k0, k1⟩ := draw_ok h2 (many := 8) (by omega) (by omega)
      by_cases qk : 0 < k
      · obtain ⟨r3, S4, e5, h4, r30, r31⟩ := draw_ok h3 (many := 36) (by omega) (by omega)
        obtain ⟨c3, e6, hc3⟩ := pick36 r30 r31 S4
        have hm := main_ok qk k1 hc3
        have hm2 := small_fit hm
        have hgt : ∀ (S : Store), evE T__law_name (.cmp .gt (.var 6) (.lit (.int 0))) [some (.ref 1), some (.ref (u + 2)), some (.str signs), some (.int 1), some (.str (sign c)), none, some (.int k), none] S = .ok (.bl true) S := fun S => by
          have : decide (0 < k) = true := decide_eq_true qk
          rw [← this]
          exact gt_i rfl rfl
        exact go h4 hm ((ite_f (hw S2)).trans (seq ((ite_t (by exact rfl)).trans (seq (asg_e (call2 rfl rfl rfl e4) rfl) (seq (asg_e (add_strS (ife_t (hgt S3) (add_strS (x := preS k) rfl (idx_e rfl (call2 rfl rfl rfl e5) e6) (by rw [str_length] at hm2; omega))) (y := sufS (k + 1)) rfl hm2) rfl) nil_e))) nil_e))
      · have k2 : k = 0 := by omega
        subst k2
        have hm := main_ok0 hc
        exact go h3 hm ((ite_f (hw S2)).trans (seq ((ite_t (by exact rfl)).trans (seq (asg_e (call2 rfl rfl rfl e4) rfl) (seq (asg_e (add_strS (ife_f (by exact rfl) rfl) (y := sufS (0 + 1)) rfl (small_fit hm)) rfl) nil_e))) nil_e))
    · have hne1 : (way == 1) = false := by simpa using q1
      have hw1 : ∀ (S : Store), evE T__law_name (.cmp .eq (.var 3) (.lit (.int 1))) [some (.ref 1), some (.ref (u + 2)), some (.str signs), some (.int way), some (.str (sign c)), none, none, none] S = .ok (.bl false) S := fun S => by
        rw [← hne1]
        exact eq_i rfl rfl
      obtain ⟨k, S3, e4, h3, k0, k1⟩ := draw_ok h2 (many := 8) (by omega) (by omega)
      obtain ⟨ys, S4, e5, h4, yl, yp⟩ := lc_dk (Φ := T__law_name) (R := R) (ρ := [some (.ref 1), some (.ref (u + 2)), some (.str signs), some (.int way), some (.str (sign c)), none, none, none]) (own := [6]) (t := .nm 6) (it := .rng1 (.call 0 [.var 0, .lit (.int 8)])) (el := .idx (.var 2) (.call 0 [.var 0, .lit (.int 36)]))
        (P := fun y => ∃ c, y = .str (sign c) ∧ c ∈ signs.cps.toList) (rng1_e (call2 rfl rfl rfl e4) k0 (by omega)) h3 fun d m S hS => by
          obtain ⟨r3, S4, e5, h4, r30, r31⟩ := draw_ok hS (many := 36) (by omega) (by omega)
          obtain ⟨c3, e6, hc3⟩ := pick36 r30 r31 S4
          exact ⟨_, _, S4, rfl, idx_e rfl (call2 rfl rfl rfl e5) e6, h4, c3, rfl, hc3⟩
      obtain ⟨cs, rfl, hcs⟩ := strs_of yp
      have hl : cs.length ≤ 7 := by
        simp only [List.length_map, List.length_range] at yl
        omega
      have hm := join_ok hc hl hcs
      exact go h4 hm ((ite_f (hw S2)).trans (seq ((ite_f (hw1 S2)).trans (seq (asg_e (add_strS rfl (join_e rfl e5 rfl (txts_map _) (by rw [joinLen_signs]; unfold line; omega)) (small_fit hm)) rfl) nil_e)) nil_e))
end K02

set_option linter.all false
set_option autoImplicit false
set_option maxRecDepth 100000
set_option maxHeartbeats 1000000
namespace K02
open PySem (Str)
open Cl

section
variable {Φ : Tab} {ρ : Env} {S S1 : Store} {o a : E} {n : Nat} {x d : D} {es ds : List D} {i : Int} {j : Nat}
theorem append_s (ho : evE Φ o ρ S = .ok (.ref n) S) (h0 : S[n]? = some (.lst es)) (ha : evE Φ a ρ S = .ok x S1) (hn : S1[n]? = some (.lst ds)) (hl : ds.length < line) : evE Φ (.mt .append o [a]) ρ S = .ok .non (S1.set n (.lst (ds ++ [x]))) := by
  simp only [evE, evEs, ho, ha, Res.bind_ok, mtTy, h0, if_true, mtSem, hn, if_pos hl]
theorem popAt_s (ho : evE Φ o ρ S = .ok (.ref n) S) (h0 : S[n]? = some (.lst es)) (ha : evE Φ a ρ S = .ok (.int i) S1) (hn : S1[n]? = some (.lst ds)) (hi : 0 ≤ i) (hi2 : i < ds.length) (hd : ds[i.toNat]? = some d) : evE Φ (.mt .popAt o [a]) ρ S = .ok d (S1.set n (.lst (ds.eraseIdx i.toNat))) := by
  have e : ixN ds.length i = some i.toNat := by
    unfold ixN
    rw [if_pos hi, if_pos hi2]
  simp only [evE, evEs, ho, ha, Res.bind_ok, mtTy, h0, if_true, mtSem, hn, e, hd]
theorem len_ref (ha : evE Φ a ρ S = .ok (.ref n) S) (hn : S[n]? = some (.lst ds)) : evE Φ (.bi .len false [a]) ρ S = .ok (.int ds.length) S := len_e ha (by simp only [lstOf, hn])
theorem len_tup (ha : evE Φ a ρ S = .ok (.tup ds) S) : evE Φ (.bi .len false [a]) ρ S = .ok (.int ds.length) S := by
  simp only [evE, evEs, ha, Res.bind_ok]
  rfl
theorem tuple_ref (ha : evE Φ a ρ S = .ok (.ref n) S1) (hn : S1[n]? = some (.lst ds)) : evE Φ (.bi .tuple false [a]) ρ S = .ok (.tup ds) S1 := by
  simp only [evE, evEs, ha, Res.bind_ok]
  show (match lstOf S1 (.ref n) with
    | some ds => Res.ok (D.tup ds) S1
    | none => .stuck) = _
  simp only [lstOf, hn]
theorem tuple_lst (ha : evE Φ a ρ S = .ok (.lst ds) S1) : evE Φ (.bi .tuple false [a]) ρ S = .ok (.tup ds) S1 := by
  simp only [evE, evEs, ha, Res.bind_ok]
  rfl
end
theorem map_erase {α : Type} (g : α → D) : ∀ (l : List α) (j : Nat), (l.map g).eraseIdx j = (l.eraseIdx j).map g
  | [], _ => rfl
  | _ :: _, 0 => rfl
  | a :: l, j + 1 => by simp only [List.map_cons, List.eraseIdx_cons_succ, map_erase g l j]
theorem flats_map {α : Type} {g : α → D} (hg : ∀ x, flatD (g x) = true) (l : List α) : flatDs (l.map g) = true := by
  rw [flatDs_all, List.all_map, List.all_eq_true]
  exact fun x _ => hg x
theorem shuffled_ok {α : Type} {g : α → D} (hg : ∀ x, flatD (g x) = true) {R S : Store} (hS : Dk R S) (xs : List α) (hx : xs.length ≤ 1000) :
    ∃ (ys : List α) (S' : Store), F__law_shuffled [.ref 1, .tup (xs.map g)] S = .ok (.tup (ys.map g)) S' ∧ (∀ y ∈ ys, y ∈ xs) ∧ ys.length = xs.length ∧ Dk R S' := by
  have hl := dk_len hS
  have t1 : evS T__law_shuffled (.asg (.tp [.nm 3, .nm 4]) (.tup [.bi .list true [.var 1], .lst true []])) [some (.ref 1), some (.tup (xs.map g)), none, none, none] S =
      .ok (.nx [some (.ref 1), some (.tup (xs.map g)), none, some (.ref S.length), some (.ref (S.length + 1))]) (S ++ [.lst (xs.map g), .lst []]) := by
    refine asg_e (tup2 (x := .ref S.length) (S1 := S ++ [.lst (xs.map g)]) rfl (y := .ref (S.length + 1)) (S2 := S ++ [.lst (xs.map g), .lst []]) ?_) rfl
    show Res.ok (D.ref (S ++ [Cell.lst (xs.map g)]).length) (S ++ [Cell.lst (xs.map g)] ++ [Cell.lst []]) = _
    simp
  have hS0 : Dk (R ++ [.lst (xs.map g), .lst (([] : List α).map g)]) (S ++ [.lst (xs.map g), .lst []]) := dk_app hS _
  obtain ⟨ρ', S', e2, ⟨t, rfl⟩, ls, fs, hD, hsum, hlen, hm1, hm2⟩ := forL_map (J := ⟨(List.range xs.length).map fun (k : Nat) => D.int k, none⟩) (fun k : Nat => D.int (k : Int)) (List.range xs.length)
    (f := fun d ρ1 S2 => match asgT (.nm 2) d ρ1 with
      | none => .stuck
      | some ρ2 => evSs T__law_shuffled [.expr (.mt .append (.var 4) [.mt .popAt (.var 3) [.call 3 [.var 0, .bi .len false [.var 3]]]])] ρ2 S2)
    (fun done ρ S2 => (∃ t, ρ = [some (.ref 1), some (.tup (xs.map g)), t, some (.ref S.length), some (.ref (S.length + 1))]) ∧ ∃ ls fs : List α, Dk (R ++ [.lst (ls.map g), .lst (fs.map g)]) S2 ∧ ls.length + fs.length = xs.length ∧ fs.length = done.length ∧ (∀ y ∈ ls, y ∈ xs) ∧ ∀ y ∈ fs, y ∈ xs)
    (fun _ _ _ _ => trivial) (xs := List.range xs.length) (done := []) rfl ⟨⟨none, rfl⟩, xs, [], hS0, rfl, rfl, fun _ m => m, fun _ m => nomatch m⟩ (by
      rintro done k rest ρ S2 eall ⟨⟨t, rfl⟩, ls, fs, hD, hsum, hlen, hm1, hm2⟩
      have hk : done.length < xs.length := by
        have := congrArg List.length eall
        simp only [List.length_range, List.length_append, List.length_cons] at this
        omega
      have g1 : ∀ {S3 : Store} {l2 f2 : List α}, Dk (R ++ [.lst (l2.map g), .lst (f2.map g)]) S3 → S3[S.length]? = some (.lst (l2.map g)) ∧ S3[S.length + 1]? = some (.lst (f2.map g)) := fun {S3 l2 f2} h => by
        rw [hl, show R.length + 2 + 1 = (R.length + 1) + 2 by omega, dk_get h, dk_get h]
        simp
      obtain ⟨r, S3, e3, h3, r0, r1⟩ := draw_ok hD (many := (ls.length : Int)) (by omega) (by omega)
      obtain ⟨a1, a2⟩ := g1 hD
      obtain ⟨b1, b2⟩ := g1 h3
      have hr : r.toNat < ls.length := by omega
      have eg : (ls.map g)[r.toNat]? = some (g ls[r.toNat]) := by simp [hr]
      have h4 := dk_set h3 R.length (.lst ((ls.eraseIdx r.toNat).map g))
      rw [← hl] at h4
      have eset : (R ++ [Cell.lst (ls.map g), Cell.lst (fs.map g)]).set R.length (Cell.lst ((ls.eraseIdx r.toNat).map g)) = R ++ [Cell.lst ((ls.eraseIdx r.toNat).map g), Cell.lst (fs.map g)] := by simp
      rw [eset] at h4
      obtain ⟨c1, c2⟩ := g1 h4
      have h5 := dk_set h4 (R.length + 1) (.lst ((fs ++ [ls[r.toNat]]).map g))
      have eset2 : (R ++ [Cell.lst ((ls.eraseIdx r.toNat).map g), Cell.lst (fs.map g)]).set (R.length + 1) (Cell.lst ((fs ++ [ls[r.toNat]]).map g)) = R ++ [Cell.lst ((ls.eraseIdx r.toNat).map g), Cell.lst ((fs ++ [ls[r.toNat]]).map g)] := by
        rw [List.set_append_right _ _ (by omega)]
        simp
      rw [eset2, show R.length + 1 + 2 = S.length + 1 by omega] at h5
      refine ⟨[some (.ref 1), some (.tup (xs.map g)), some (.int k), some (.ref S.length), some (.ref (S.length + 1))], _, seq (expr_e (append_s rfl a2 (popAt_s (d := g ls[r.toNat]) rfl a1 (call2 rfl rfl (len_ref rfl a1) (by rw [List.length_map]; exact e3)) b1 r0 (by rw [List.length_map]; exact r1) eg) (by rw [map_erase]; exact c2) ?_)) nil_e, ⟨_, rfl⟩, ls.eraseIdx r.toNat, fs ++ [ls[r.toNat]], ?_, ?_, ?_, ?_, ?_⟩
      · rw [List.length_map]
        unfold line
        omega
      · rw [map_erase, show fs.map g ++ [g ls[r.toNat]] = (fs ++ [ls[r.toNat]]).map g by simp]
        exact h5
      · rw [List.length_eraseIdx_of_lt hr, List.length_append]
        simp only [List.length_cons, List.length_nil]
        omega
      · simp [hlen]
      · exact fun y m => hm1 y (List.mem_of_mem_eraseIdx m)
      · intro y m
        rcases List.mem_append.mp m with m | m
        · exact hm2 y m
        · rw [List.mem_singleton] at m
          rw [m]
          exact hm1 _ (List.getElem_mem hr))
  have hfl : fs.length = xs.length := by simpa using hlen
  obtain ⟨S2, e3, h3⟩ := dk_fn (Φ := T__law_shuffled) (b := b__law_shuffled) (n := 5) (ds := [.ref 1, .tup (xs.map g)]) (d := .tup (fs.map g)) (l := [.lst (ls.map g), .lst (fs.map g)]) (S1 := S') hS
    (seq t1 (seq (for_e (J := ⟨(List.range xs.length).map fun (k : Nat) => D.int k, none⟩) (by
      have z := rng1_e (Φ := T__law_shuffled) (ρ := [some (.ref 1), some (.tup (xs.map g)), none, some (.ref S.length), some (.ref (S.length + 1))]) (a := .bi .len false [.var 1]) (S1 := S ++ [.lst (xs.map g), .lst []]) (n := ((xs.map g).length : Int)) (len_tup rfl) (by omega) (by rw [List.length_map]; omega)
      rw [List.length_map] at z
      exact z) e2) (ret_e (tuple_ref rfl (by
        rw [hl, show R.length + 2 + 1 = (R.length + 1) + 2 by omega, dk_get hD]
        simp)))))
    hD rfl (flat_bnd _ (by simp only [flatD]; exact flats_map hg fs)) fun i _ => .inl rfl
  exact ⟨fs, S2, e3, hm2, hfl, h3⟩
end K02

set_option linter.all false
set_option autoImplicit false
set_option maxRecDepth 100000
set_option maxHeartbeats 1000000
namespace K02
open PySem (Str)
open Cl

theorem list_of {α : Type} {g : α → D} {Q : α → Prop} : ∀ {ys : List D}, (∀ y ∈ ys, ∃ x, y = g x ∧ Q x) → ∃ xs : List α, ys = xs.map g ∧ ∀ x ∈ xs, Q x
  | [], _ => ⟨[], rfl, fun _ m => nomatch m⟩
  | y :: ys, h => by
    obtain ⟨x, e, p⟩ := h y (List.mem_cons_self ..)
    obtain ⟨xs, e2, p2⟩ := list_of fun z m => h z (List.mem_cons_of_mem _ m)
    refine ⟨x :: xs, by rw [e, e2]; rfl, fun d m => ?_⟩
    rcases List.mem_cons.mp m with rfl | m
    · exact p
    · exact p2 d m
theorem for_rng {Φ : Tab} {a : E} {body : List Cl.S} {i : Nat} {n : Int} {ρ : Env} {S S1 : Store} (P : Nat → Env → Store → Prop) (ha : evE Φ a ρ S = .ok (.int n) S1) (h0 : 0 ≤ n) (h1 : n ≤ 1000000) (hP : P 0 ρ S1)
    (step : ∀ (k : Nat) (ρ : Env) (S : Store), k < n.toNat → P k ρ S → ∃ ρ' S', evSs Φ body (ρ.set i (some (.int k))) S = .ok (.nx ρ') S' ∧ P (k + 1) ρ' S') :
    ∃ ρ' S', evS Φ (.for_ (.nm i) (.rng1 a) body) ρ S = .ok (.nx ρ') S' ∧ P n.toNat ρ' S' := by
  obtain ⟨ρ', S', e, h⟩ := forL_map (J := ⟨(List.range n.toNat).map fun (k : Nat) => D.int k, none⟩) (fun k : Nat => D.int (k : Int)) (List.range n.toNat)
    (f := fun d ρ1 S2 => match asgT (.nm i) d ρ1 with
      | none => .stuck
      | some ρ2 => evSs Φ body ρ2 S2) (fun done ρ S => P done.length ρ S) (fun _ _ _ _ => trivial) (xs := List.range n.toNat) (done := []) (ρ := ρ) (S := S1) rfl hP (by
    intro done x rest ρ S eall h
    have hlen : done.length < n.toNat := by
      have := congrArg List.length eall
      simp only [List.length_range, List.length_append, List.length_cons] at this
      omega
    have hx : x = done.length := by
      have : (List.range n.toNat)[done.length]? = some x := by rw [eall]; simp
      rw [List.getElem?_range hlen] at this
      exact (Option.some.inj this).symm
    subst hx
    obtain ⟨ρ', S', e, h2⟩ := step done.length ρ S hlen h
    exact ⟨ρ', S', e, by simpa using h2⟩)
  refine ⟨ρ', S', for_e (rng1_e ha h0 h1) e, by simpa using h⟩

theorem or2_e {Φ : Tab} {ρ : Env} {S S1 : Store} {a b : E} {p q : Bool} (ha : evE Φ a ρ S = .ok (.bl p) S1) (hb : evE Φ b ρ S1 = .ok (.bl q) S1) : evE Φ (.or_ [a, b]) ρ S = .ok (.bl (p || q)) S1 := by
  have z : evOr Φ [a, b] ρ S = .ok (p || q) S1 := by
    simp only [evOr, ha, Res.bind_ok, toB]
    cases p with
    | true => rfl
    | false =>
      simp only [Bool.false_eq_true, if_false, hb, Res.bind_ok, toB]
      cases q <;> rfl
  simp only [evE, z, Res.bind_ok]
theorem and2_e {Φ : Tab} {ρ : Env} {S S1 : Store} {a b : E} {p q : Bool} (ha : evE Φ a ρ S = .ok (.bl p) S1) (hb : evE Φ b ρ S1 = .ok (.bl q) S1) : evE Φ (.and_ [a, b]) ρ S = .ok (.bl (p && q)) S1 := by
  have z : evAnd Φ [a, b] ρ S = .ok (p && q) S1 := by
    simp only [evAnd, ha, Res.bind_ok, toB]
    cases p with
    | false => rfl
    | true =>
      simp only [if_true, hb, Res.bind_ok, toB]
      cases q <;> rfl
  simp only [evE, z, Res.bind_ok]
/-! ### an overlap -/
def kindOk (k : Str) (e : En) : Prop := k ∈ kinds ∧ (k = "plain" → e.2 ≤ 1)
theorem dget_kinds {R S : Store} {q : Nat} {kvs : List (Key × D)} (hS : Dk R S) (hk : R[q]? = some (.dK kvs false)) (x : Str) {d : D} (hx : look kvs (.inr x) = some d) : getitem (.ref (q + 2)) (.str x) S = .ok d S := by
  have e : S[q + 2]? = some (.dK kvs false) := (dk_get hS q).trans hk
  show (match dget S (.ref (q + 2)) (.str x) with
    | .some d => Res.ok d S
    | _ => .stuck) = _
  simp only [dget, e, keyOf, hx]
theorem xor_ok {i : Int} (h0 : 0 ≤ i) (h1 : i ≤ 3) (S : Store) : ∃ j : Int, binop false .xor (.int i) (.int 1) S = .ok (.int j) S ∧ 0 ≤ j ∧ j ≤ 3 := by
  rcases small h0 h1 with rfl | rfl | rfl | rfl
  · exact ⟨1, rfl, by decide⟩
  · exact ⟨0, rfl, by decide⟩
  · exact ⟨3, rfl, by decide⟩
  · exact ⟨2, rfl, by decide⟩
theorem eq_str {Φ : Tab} {ρ : Env} {S S1 S2 : Store} {a b : E} {x y : Str} (ha : evE Φ a ρ S = .ok (.str x) S1) (hb : evE Φ b ρ S1 = .ok (.str y) S2) : evE Φ (.cmp .eq a b) ρ S = .ok (.bl (x == y)) S2 := by
  simp only [evE]
  rw [ha, Res.bind_ok, hb, Res.bind_ok]
  rfl
theorem over_ok {R S : Store} {q : Nat} {kvs : List (Key × D)} (hS : Dk R S) (hk : R[q]? = some (.dK kvs false)) {e : En} {kd : Str} (he : e.ok) (hx : look kvs (.inr e.1) = some (.str kd)) (ho : kindOk kd e) :
    ∃ (os : List Sp) (S' : Store), F__law_over [.ref 1, .ref (q + 2), e.d] S = .ok (.tup (os.map Sp.d)) S' ∧ os.length ≤ 1 ∧ (∀ o ∈ os, Sp.ok o) ∧ Dk R S' := by
  obtain ⟨r, S1, e1, h1, r0, r1⟩ := draw_ok hS (many := 2) (by omega) (by omega)
  have hg := fun (S : Store) (h : Dk R S) => dget_kinds h hk e.1 hx
  have gk : ∀ {S : Store}, Dk R S → evE T__law_over (.idx (.var 1) (.var 3)) [some (.ref 1), some (.ref (q + 2)), some e.d, some (.str e.1), some (.int e.2)] S = .ok (.str kd) S := fun {S} h => idx_e rfl rfl (hg S h)
  -- the end
  have fin : ∀ {os : List Sp} {S2 : Store}, evSs T__law_over b__law_over [some (.ref 1), some (.ref (q + 2)), some e.d, none, none] S = .ok (.rt (.tup (os.map Sp.d))) S2 → os.length ≤ 1 → (∀ o ∈ os, Sp.ok o) → Dk R S2 →
      ∃ (os : List Sp) (S' : Store), F__law_over [.ref 1, .ref (q + 2), e.d] S = .ok (.tup (os.map Sp.d)) S' ∧ os.length ≤ 1 ∧ (∀ o ∈ os, Sp.ok o) ∧ Dk R S' := fun {os S2} e2 h2 h3 h4 => by
    obtain ⟨S3, e3, h5⟩ := dk_fn0 (Φ := T__law_over) (b := b__law_over) (n := 5) (ds := [.ref 1, .ref (q + 2), e.d]) hS e2 h4 (by simp only [flatD]; exact flats_map (fun _ => rfl) os)
    exact ⟨os, S3, e3, h2, h3, h5⟩
  have c1 : evE T__law_over (.cmp .eq (.call 0 [.var 0, .lit (.int 2)]) (.lit (.int 0))) [some (.ref 1), some (.ref (q + 2)), some e.d, some (.str e.1), some (.int e.2)] S = .ok (.bl (r == 0)) S1 := eq_i (call2 rfl rfl rfl e1) rfl
  have c2 : evE T__law_over (.cmp .eq (.idx (.var 1) (.var 3)) (.lit (.str "points"))) [some (.ref 1), some (.ref (q + 2)), some e.d, some (.str e.1), some (.int e.2)] S1 = .ok (.bl (kd == "points")) S1 := eq_str (gk h1) rfl
  have c3 : evE T__law_over (.or_ [.cmp .eq (.call 0 [.var 0, .lit (.int 2)]) (.lit (.int 0)), .cmp .eq (.idx (.var 1) (.var 3)) (.lit (.str "points"))]) [some (.ref 1), some (.ref (q + 2)), some e.d, some (.str e.1), some (.int e.2)] S = .ok (.bl (r == 0 || kd == "points")) S1 := or2_e c1 c2
  cases hq : (r == 0 || kd == "points") with
  | true =>
    rw [hq] at c3
    exact fin (os := []) (seq (asg_e rfl rfl) (seq_rt ((ite_t c3).trans (ret_e rfl)))) (by simp) (fun _ m => nomatch m) h1
  | false =>
    rw [hq] at c3
    obtain ⟨x, ex, x0, x1⟩ := xor_ok he.lo he.hi S1
    have c4 : evE T__law_over (.cmp .eq (.idx (.var 1) (.var 3)) (.lit (.str "plain"))) [some (.ref 1), some (.ref (q + 2)), some e.d, some (.str e.1), some (.int e.2)] S1 = .ok (.bl (kd == "plain")) S1 := eq_str (gk h1) rfl
    obtain ⟨j, ej, j0, j1⟩ : ∃ j : Int, evE T__law_over (.ife (.cmp .eq (.idx (.var 1) (.var 3)) (.lit (.str "plain"))) (.bin .sub false (.lit (.int 1)) (.var 4)) (.bin .xor false (.var 4) (.lit (.int 1)))) [some (.ref 1), some (.ref (q + 2)), some e.d, some (.str e.1), some (.int e.2)] S1 = .ok (.int j) S1 ∧ 0 ≤ j ∧ j ≤ 3 := by
      cases hp : (kd == "plain") with
      | true =>
        rw [hp] at c4
        have := ho.2 (eq_of_beq hp)
        have := he.lo
        exact ⟨1 - e.2, ife_t c4 (sub_i rfl rfl), by omega, by omega⟩
      | false =>
        rw [hp] at c4
        exact ⟨x, ife_f c4 ex, x0, x1⟩
    refine fin (os := [(e.1, e.2, j)]) (seq (asg_e rfl rfl) (seq ((ite_f c3).trans nil_e) (ret_e (tup1 (tup3 rfl rfl ej))))) (by simp) (fun o m => ?_) h1
    rw [List.mem_singleton] at m
    subst m
    exact ⟨he.name, he.lo, he.hi, j0, j1⟩
end K02

set_option linter.all false
set_option autoImplicit false
set_option maxRecDepth 100000
set_option maxHeartbeats 1000000
namespace K02
open PySem (Str)
open Cl

theorem s_last {R : Store} {c : Cell} : (R ++ [c])[R.length]? = some c := by simp
theorem s_set_last {R : Store} {c c' : Cell} : (R ++ [c]).set R.length c' = R ++ [c'] := by simp
/-- picking from what holds Q -/
theorem pick_of {α : Type} {g : α → D} {Q : α → Prop} (hg : ∀ x, flatD (g x) = true) {R S : Store} {x : D} {l : List α} (hS : Dk R S) (hx : Lst R x (l.map g)) (h0 : l ≠ []) (hl : l.length ≤ 1000) (hq : ∀ y ∈ l, Q y) :
    ∃ (y : α) (S' : Store), F__law_pick [.ref 1, x] S = .ok (g y) S' ∧ Q y ∧ y ∈ l ∧ Dk R S' := by
  obtain ⟨d, S', e, hd, h⟩ := pick_ok hS hx (by simpa using h0) (by rw [List.length_map]; omega) (fun d m => by
    obtain ⟨y, _, rfl⟩ := List.mem_map.mp m
    exact hg y)
  obtain ⟨y, hy, rfl⟩ := List.mem_map.mp hd
  exact ⟨y, S', e, hq y hy, hy, h⟩
theorem ife_tS {Φ : Tab} {ρ : Env} {S S1 S2 : Store} {t a b : E} {d : D} {q : Bool} (h : evE Φ t ρ S = .ok (.bl q) S1) (h2 : q = true → evE Φ a ρ S1 = .ok d S2) (h3 : q = false → evE Φ b ρ S1 = .ok d S2) : evE Φ (.ife t a b) ρ S = .ok d S2 := by
  cases q with
  | true => simp only [evE, h, Res.bind_ok, toB, if_true, h2 rfl]
  | false => simp only [evE, h, Res.bind_ok, toB, Bool.false_eq_true, if_false, h3 rfl]
theorem new_e {Φ : Tab} {ρ : Env} {S : Store} {i : Nat} : evS Φ (.asg (.nm i) (.lst true [])) ρ S = .ok (.nx (ρ.set i (some (.ref S.length)))) (S ++ [.lst []]) := asg_e (d := .ref S.length) rfl rfl
theorem kinds_flat (x : Str) : flatD (.str x) = true := rfl
theorem tup_append {Φ : Tab} {ρ : Env} {S S1 S2 : Store} {a b : E} {xs ys : List D} {nw : Bool} (ha : evE Φ a ρ S = .ok (.tup xs) S1) (hb : evE Φ b ρ S1 = .ok (.tup ys) S2) (hl : xs.length + ys.length ≤ line) : evE Φ (.bin .add nw a b) ρ S = .ok (.tup (xs ++ ys)) S2 := by
  simp only [evE, ha, hb, Res.bind_ok, binop, if_pos hl]
theorem si_flat (s : Si) : flatD s.d = true := by
  simp only [Si.d, flatD, flatDs, En.d, flats_map (g := Sp.d) (fun _ => rfl) s.over, Bool.and_true]
theorem plan_flat (p : Plan) : flatD p.d = true := by
  simp only [Plan.d, flatD, flatDs, flats_map (g := stD) (fun _ => rfl) p.st, flats_map (g := joD) (fun _ => rfl) p.jo, flats_map (g := gaD) (fun _ => rfl) p.ga, flats_map si_flat p.si, Bool.and_true]
theorem free_ok {R S : Store} (hS : Dk R S) : ∃ (p : Plan) (S' : Store), p.ok ∧ F__law_free [.ref 1] S = .ok p.d S' ∧ Dk R S' := by
  have hl := dk_len hS
  have t1 : evS T__law_free (.asg (.nm 1) (.lst true [.lit (.str "a"), .lit (.str "b"), .lit (.str "points")])) [some (.ref 1), none, none, none, none, none, none, none, none, none, none] S =
      .ok (.nx [some (.ref 1), some (.ref (R.length + 2)), none, none, none, none, none, none, none, none, none]) (S ++ [.lst ((["a", "b", "points"] : List Str).map D.str)]) := by
    refine asg_e (d := .ref (R.length + 2)) ?_ rfl
    show Res.ok (D.ref S.length) _ = _
    rw [hl]
    rfl
  obtain ⟨n1, S1, e1, h1, a0, a1⟩ := draw_ok (dk_app hS [.lst ((["a", "b", "points"] : List Str).map D.str)]) (many := 12) (by omega) (by omega)
  obtain ⟨ρ2, S2, e2, ⟨t, rfl⟩, names, h2, hlen, hnames⟩ := for_rng (Φ := T__law_free) (i := 2) (a := .call 1 [.var 0, .lit (.int 12)]) (body := [.expr (.call 2 [.var 0, .var 1])]) (n := n1)
    (ρ := [some (.ref 1), some (.ref (R.length + 2)), none, none, none, none, none, none, none, none, none]) (S := S ++ [.lst ((["a", "b", "points"] : List Str).map D.str)])
    (fun k ρ S' => (∃ t, ρ = [some (.ref 1), some (.ref (R.length + 2)), t, none, none, none, none, none, none, none, none]) ∧ ∃ names : List Str, Dk (R ++ [.lst (names.map .str)]) S' ∧ names.length = 3 + k ∧ ∀ x ∈ names, NameOk x)
    (call2 rfl rfl rfl e1) a0 (by omega) ⟨⟨none, rfl⟩, ["a", "b", "points"], h1, rfl, fun x m => nm_ok (by
      have : ∀ x ∈ (["a", "b", "points"] : List Str), nm x.cps.toList = true := by decide
      exact this x m)⟩ (by
      rintro k ρ S3 hk ⟨⟨t, rfl⟩, names, h3, hlen, hn⟩
      obtain ⟨x, S4, e4, hx, _, h4⟩ := name_ok h3 s_last (by omega)
      rw [s_set_last] at h4
      exact ⟨_, S4, seq (expr_e (call2 rfl rfl rfl e4)) nil_e, ⟨_, rfl⟩, names ++ [x], h4, by rw [List.length_append]; simp only [List.length_cons, List.length_nil]; omega, fun y m => by
        rcases List.mem_append.mp m with m | m
        · exact hn y m
        · rw [List.mem_singleton] at m
          rw [m]
          exact hx⟩)
  have hn0 : names ≠ [] := fun z => by
    rw [z] at hlen
    simp at hlen
    omega
  have hnl : names.length ≤ 1000 := by omega
  -- picking a used name
  have pk : ∀ {R' : Store} {S : Store}, R'[R.length]? = some (.lst (names.map .str)) → Dk R' S → ∃ (x : Str) (S' : Store), F__law_pick [.ref 1, .ref (R.length + 2)] S = .ok (.str x) S' ∧ NameOk x ∧ Dk R' S' := fun {R' S} hr h => by
    obtain ⟨x, S', e, q, _, h⟩ := pick_of (g := D.str) (fun _ => rfl) h (.inr ⟨R.length, rfl, hr⟩) hn0 hnl hnames
    exact ⟨x, S', e, q, h⟩
  obtain ⟨ys, S3, e3, h3, yl, yp⟩ := lc_dk (Φ := T__law_free) (R := R ++ [.lst (names.map .str)]) (ρ := [some (.ref 1), some (.ref (R.length + 2)), t, none, none, none, none, none, none, none, none]) (own := [2]) (t := .nm 2) (it := .rng1 (.lit (.int 20)))
    (el := .tup [.call 3 [.var 0, .var 1], .call 1 [.var 0, .lit (.int 4)]]) (P := fun y => ∃ e : En, y = e.d ∧ e.ok) (rng1_e (n := 20) rfl (by decide) (by decide)) h2 fun d m S h => by
      obtain ⟨x, S4, e4, hx, h4⟩ := pk s_last h
      obtain ⟨r, S5, e5, h5, r0, r1⟩ := draw_ok h4 (many := 4) (by omega) (by omega)
      exact ⟨_, _, S5, rfl, tup2 (call2 rfl rfl rfl e4) (call2 rfl rfl rfl e5), h5, (x, r), rfl, hx, r0, by show r ≤ 3; omega⟩
  obtain ⟨ends, rfl, hends⟩ := list_of yp
  have hel : ends.length = 20 := by simpa using yl
  have he0 : ends ≠ [] := fun z => by rw [z] at hel; simp at hel
  have pe : ∀ {R' : Store} {S : Store}, Dk R' S → ∃ (e : En) (S' : Store), F__law_pick [.ref 1, .lst (ends.map En.d)] S = .ok e.d S' ∧ e.ok ∧ Dk R' S' := fun {R' S} h => by
    obtain ⟨x, S', e, q, _, h⟩ := pick_of (g := En.d) (fun _ => rfl) h (.inl rfl) he0 (by omega) hends
    exact ⟨x, S', e, q, h⟩
  obtain ⟨many, S4, e4, h4, m0, m1⟩ := draw_ok h3 (many := 13) (by omega) (by omega)
  -- the stretches
  obtain ⟨ys5, S5, e5, h5, yl5, yp5⟩ := lc_dk (Φ := T__law_free) (R := R ++ [.lst (names.map .str)]) (ρ := [some (.ref 1), some (.ref (R.length + 2)), t, some (.lst (ends.map En.d)), none, none, none, none, some (.int many), some (.lst (kinds.map D.str)), none]) (own := [2]) (t := .nm 2) (it := .rng1 (.var 8))
    (el := .tup [.call 3 [.var 0, .var 1], .call 3 [.var 0, .var 9]]) (P := fun y => ∃ s : Str × Str, y = stD s ∧ (NameOk s.1 ∧ s.2 ∈ kinds)) (rng1_e (n := many) rfl m0 (by omega)) h4 fun d m S h => by
      obtain ⟨x, S4, e4, hx, h4⟩ := pk s_last h
      obtain ⟨k, S5, e5, _, hk, h5⟩ := pick_of (g := D.str) (Q := fun _ => True) (fun _ => rfl) h4 (x := .lst (kinds.map D.str)) (l := kinds) (.inl rfl) (by decide) (by decide) (fun _ _ => trivial)
      exact ⟨_, _, S5, rfl, tup2 (call2 rfl rfl rfl e4) (call2 rfl rfl rfl e5), h5, (x, k), rfl, hx, hk⟩
  obtain ⟨sts, rfl, hsts⟩ := list_of yp5
  -- the joints
  obtain ⟨nj, S6, e6, h6, j0, j1⟩ := draw_ok h5 (many := 17) (by omega) (by omega)
  obtain ⟨ys7, S7, e7, h7, yl7, yp7⟩ := lc_dk (Φ := T__law_free) (R := R ++ [.lst (names.map .str)]) (S := S5) (ρ := [some (.ref 1), some (.ref (R.length + 2)), t, some (.lst (ends.map En.d)), some (.lst (sts.map stD)), none, none, none, some (.int many), some (.lst (kinds.map D.str)), none]) (own := [2]) (t := .nm 2) (it := .rng1 (.call 1 [.var 0, .lit (.int 17)]))
    (el := .tup [.call 3 [.var 0, .var 3], .call 3 [.var 0, .var 3]]) (P := fun y => ∃ s : En × En, y = joD s ∧ (s.1.ok ∧ s.2.ok)) (rng1_e (n := nj) (call2 rfl rfl rfl e6) j0 (by omega)) h6 fun d m S h => by
      obtain ⟨x, S4, e4, hx, h4⟩ := pe h
      obtain ⟨k, S5, e5, hk, h5⟩ := pe h4
      exact ⟨_, _, S5, rfl, tup2 (call2 rfl rfl rfl e4) (call2 rfl rfl rfl e5), h5, (x, k), rfl, hx, hk⟩
  obtain ⟨jos, rfl, hjos⟩ := list_of yp7
  -- the gates
  obtain ⟨ng, S8, e8, h8, g0, g1⟩ := draw_ok h7 (many := 5) (by omega) (by omega)
  obtain ⟨ys9, S9, e9, h9, yl9, yp9⟩ := lc_dk (Φ := T__law_free) (R := R ++ [.lst (names.map .str)]) (S := S7) (ρ := [some (.ref 1), some (.ref (R.length + 2)), t, some (.lst (ends.map En.d)), some (.lst (sts.map stD)), some (.lst (jos.map joD)), none, none, some (.int many), some (.lst (kinds.map D.str)), none]) (own := [2]) (t := .nm 2) (it := .rng1 (.call 1 [.var 0, .lit (.int 5)]))
    (el := .tup [.call 3 [.var 0, .var 1], .call 3 [.var 0, .var 3]]) (P := fun y => ∃ s : Str × En, y = gaD s ∧ (NameOk s.1 ∧ s.2.ok)) (rng1_e (n := ng) (call2 rfl rfl rfl e8) g0 (by omega)) h8 fun d m S h => by
      obtain ⟨x, S4, e4, hx, h4⟩ := pk s_last h
      obtain ⟨k, S5, e5, hk, h5⟩ := pe h4
      exact ⟨_, _, S5, rfl, tup2 (call2 rfl rfl rfl e4) (call2 rfl rfl rfl e5), h5, (x, k), rfl, hx, hk⟩
  obtain ⟨gas, rfl, hgas⟩ := list_of yp9
  -- the signals
  have h10 := dk_app h9 [.lst (([] : List Si).map Si.d)]
  have hl9 := dk_len h9
  have hr9 : (R ++ [Cell.lst (names.map D.str)]).length = R.length + 1 := by simp
  rw [hr9] at hl9
  obtain ⟨ns, S11, e11, h11, s0, s1⟩ := draw_ok h10 (many := 11) (by omega) (by omega)
  have hget : ∀ (c : Cell), (R ++ [Cell.lst (names.map D.str)] ++ [c])[R.length]? = some (Cell.lst (names.map D.str)) := fun c => by simp
  have hgetL : ∀ (c : Cell), (R ++ [Cell.lst (names.map D.str)] ++ [c])[R.length + 1]? = some c := fun c => by
    rw [List.getElem?_append_right (by simp)]
    simp
  have hsetL : ∀ (c c' : Cell), (R ++ [Cell.lst (names.map D.str)] ++ [c]).set (R.length + 1) c' = R ++ [Cell.lst (names.map D.str)] ++ [c'] := fun c c' => by
    rw [List.set_append_right _ _ (by simp)]
    simp
  obtain ⟨ρ12, S12, e12, ⟨t12, u12, rfl⟩, si, h12, hsil, hsi⟩ := for_rng (Φ := T__law_free) (i := 2) (a := .call 1 [.var 0, .lit (.int 11)]) (n := ns)
    (body := [.asg (.nm 10) (.bin .add false (.call 3 [.var 0, .var 3]) (.tup [.call 1 [.var 0, .lit (.int 4)]])),
      .expr (.mt .append (.var 7) [.tup [.call 3 [.var 0, .var 1], .call 3 [.var 0, .var 3], .ife (.cmp .eq (.call 1 [.var 0, .lit (.int 2)]) (.lit (.int 0))) (.tup [.var 10]) (.tup [])]])])
    (ρ := [some (.ref 1), some (.ref (R.length + 2)), t, some (.lst (ends.map En.d)), some (.lst (sts.map stD)), some (.lst (jos.map joD)), some (.lst (gas.map gaD)), some (.ref (R.length + 1 + 2)), some (.int many), some (.lst (kinds.map D.str)), none]) (S := S9 ++ [.lst []])
    (fun k ρ S' => (∃ t u, ρ = [some (.ref 1), some (.ref (R.length + 2)), t, some (.lst (ends.map En.d)), some (.lst (sts.map stD)), some (.lst (jos.map joD)), some (.lst (gas.map gaD)), some (.ref (R.length + 1 + 2)), some (.int many), some (.lst (kinds.map D.str)), u]) ∧ ∃ si : List Si, Dk (R ++ [.lst (names.map .str)] ++ [.lst (si.map Si.d)]) S' ∧ si.length = k ∧ ∀ s ∈ si, s.ok)
    (call2 rfl rfl rfl e11) s0 (by omega) ⟨⟨t, none, rfl⟩, [], h11, rfl, fun _ m => nomatch m⟩ (by
      rintro k ρ S3 hk ⟨⟨t, u, rfl⟩, si, h3, hsl, hs⟩
      obtain ⟨en, S4, e4, hen, h4⟩ := pe h3
      obtain ⟨r, S5, e5, h5, r0, r1⟩ := draw_ok h4 (many := 4) (by omega) (by omega)
      obtain ⟨x, S6, e6, hx, h6⟩ := pk (hget _) h5
      obtain ⟨en2, S7, e7, hen2, h7⟩ := pe h6
      obtain ⟨w, S8, e8, h8, w0, w1⟩ := draw_ok h7 (many := 2) (by omega) (by omega)
      have a1 : evE T__law_free (.bin .add false (.call 3 [.var 0, .var 3]) (.tup [.call 1 [.var 0, .lit (.int 4)]])) [some (.ref 1), some (.ref (R.length + 2)), some (.int k), some (.lst (ends.map En.d)), some (.lst (sts.map stD)), some (.lst (jos.map joD)), some (.lst (gas.map gaD)), some (.ref (R.length + 1 + 2)), some (.int many), some (.lst (kinds.map D.str)), u] S3 = .ok (Sp.d (en.1, en.2, r)) S5 := by
        exact tup_append (xs := [.str en.1, .int en.2]) (ys := [.int r]) (call2 rfl rfl rfl e4) (tup1 (call2 rfl rfl rfl e5)) (by show 3 ≤ line; decide)
      have a2 : evE T__law_free (.tup [.call 3 [.var 0, .var 1], .call 3 [.var 0, .var 3], .ife (.cmp .eq (.call 1 [.var 0, .lit (.int 2)]) (.lit (.int 0))) (.tup [.var 10]) (.tup [])]) [some (.ref 1), some (.ref (R.length + 2)), some (.int k), some (.lst (ends.map En.d)), some (.lst (sts.map stD)), some (.lst (jos.map joD)), some (.lst (gas.map gaD)), some (.ref (R.length + 1 + 2)), some (.int many), some (.lst (kinds.map D.str)), some (Sp.d (en.1, en.2, r))] S5 =
          .ok (Si.d ⟨x, en2, if (w == 0) = true then [(en.1, en.2, r)] else []⟩) S8 := by
        refine tup3 (call2 rfl rfl rfl e6) (call2 rfl rfl rfl e7) (ife_tS (q := w == 0) (eq_i (call2 rfl rfl rfl e8) rfl) (fun h => ?_) fun h => ?_)
        · rw [h, if_pos rfl]
          rfl
        · rw [h, if_neg (by decide)]
          rfl
      have a3 := append_s (o := .var 7) (n := R.length + 1 + 2) (x := Si.d ⟨x, en2, if (w == 0) = true then [(en.1, en.2, r)] else []⟩) (es := si.map Si.d) (ds := si.map Si.d) rfl ((dk_get h5 _).trans (hgetL _)) a2 ((dk_get h8 _).trans (hgetL _)) (by
        rw [List.length_map]
        unfold line
        omega)
      have h13 := dk_set h8 (R.length + 1) (.lst (si.map Si.d ++ [Si.d ⟨x, en2, if (w == 0) = true then [(en.1, en.2, r)] else []⟩]))
      rw [hsetL] at h13
      refine ⟨_, _, seq (asg_e a1 rfl) (seq (expr_e a3) nil_e), ⟨_, _, rfl⟩, si ++ [⟨x, en2, if (w == 0) = true then [(en.1, en.2, r)] else []⟩], ?_, by rw [List.length_append, hsl]; rfl, fun s m => ?_⟩
      · rw [List.map_append]
        exact h13
      · rcases List.mem_append.mp m with m | m
        · exact hs s m
        · rw [List.mem_singleton] at m
          subst m
          refine ⟨hx, hen2, ?_, fun o m => ?_⟩
          · show (if (w == 0) = true then [(en.1, en.2, r)] else [] : List Sp).length ≤ 1
            cases (w == 0) <;> simp
          · have : o = (en.1, en.2, r) := by
              have m : o ∈ (if (w == 0) = true then [(en.1, en.2, r)] else [] : List Sp) := m
              cases h : (w == 0) <;> rw [h] at m
              · cases m
              · simpa using m
            subst this
            exact ⟨hen.name, hen.lo, hen.hi, r0, by show r ≤ 3; omega⟩)
  have hp : (⟨sts, jos, gas, si⟩ : Plan).ok := ⟨hsts, hjos, hgas, hsi, by simp at yl5; show sts.length ≤ 1000; omega, by simp at yl7; show jos.length ≤ 1000; omega, by simp at yl9; show gas.length ≤ 1000; omega, by show si.length ≤ 1000; omega⟩
  have t3 : evS T__law_free (.asg (.nm 3) (.lc false (.tup [.call 3 [.var 0, .var 1], .call 1 [.var 0, .lit (.int 4)]]) (.nm 2) (.rng1 (.lit (.int 20))) none [2])) [some (.ref 1), some (.ref (R.length + 2)), t, none, none, none, none, none, none, none, none] S2 = .ok (.nx [some (.ref 1), some (.ref (R.length + 2)), t, some (.lst (ends.map En.d)), none, none, none, none, none, none, none]) S3 := asg_e e3 rfl
  obtain ⟨S13, e13, h13⟩ := dk_fn (Φ := T__law_free) (b := b__law_free) (n := 11) (ds := [.ref 1]) (d := (⟨sts, jos, gas, si⟩ : Plan).d) (l := [.lst (names.map .str), .lst (si.map Si.d)]) (S1 := S12) hS
    (seq t1 (seq e2 (seq t3 (seq (asg_e (tup2 (call2 rfl rfl rfl e4) rfl) rfl) (seq (asg_e e5 rfl) (seq (asg_e e7 rfl) (seq (asg_e e9 rfl) (seq (by
      have z := new_e (Φ := T__law_free) (i := 7) (ρ := [some (.ref 1), some (.ref (R.length + 2)), t, some (.lst (ends.map En.d)), some (.lst (sts.map stD)), some (.lst (jos.map joD)), some (.lst (gas.map gaD)), none, some (.int many), some (.lst (kinds.map D.str)), none]) (S := S9)
      rw [hl9] at z
      exact z) (seq e12 (ret_e (tup4 (tuple_lst rfl) (tuple_lst rfl) (tuple_lst rfl) (tuple_ref rfl ((dk_get h12 _).trans (hgetL _)))))))))))))) (by
      have : R ++ [Cell.lst (names.map D.str)] ++ [Cell.lst (si.map Si.d)] = R ++ [Cell.lst (names.map D.str), Cell.lst (si.map Si.d)] := by simp
      rw [← this]
      exact h12) rfl (flat_bnd _ (plan_flat _)) fun i _ => .inl rfl
  exact ⟨_, S13, hp, e13, h13⟩
end K02

set_option linter.all false
set_option autoImplicit false
set_option maxRecDepth 100000
set_option maxHeartbeats 1000000
namespace K02
open PySem (Str)
open Cl

theorem lcL_filterA {α : Type} {J : Itr} {f : D → Store → Res (Option D)} (p : α → Bool) (gd g : α → D) {S : Store} (hs : J.st S) : ∀ {xs : List α}, (∀ x ∈ xs, f (gd x) S = .ok (if p x then some (g x) else none) S) → lcL J f (xs.map gd) S = .ok ((xs.filter p).map g) S
  | [], _ => by rw [List.map_nil, lcL, if_pos hs]; rfl
  | x :: xs, h => by
    rw [List.map_cons, lcL, if_pos hs, h x (List.mem_cons_self ..), Res.bind_ok, lcL_filterA p gd g hs fun e m => h e (List.mem_cons_of_mem _ m), Res.bind_ok, List.filter_cons]
    cases p x <;> rfl
theorem lc_filter {Φ : Tab} {nw : Bool} {el it c : E} {t : Tg} {own : List Nat} {ρ : Env} {S : Store} {cl : Option (Nat × Cell)} {α : Type} {xs : List α} (p : α → Bool) (gd g : α → D) (h1 : evIt Φ it ρ S = .ok ⟨xs.map gd, cl⟩ S) (hst : (⟨xs.map gd, cl⟩ : Itr).st S)
    (h2 : ∀ x ∈ xs, ∃ ρ2, asgT t (gd x) (wipe ρ own) = some ρ2 ∧ evE Φ c ρ2 S = .ok (.bl (p x)) S ∧ evE Φ el ρ2 S = .ok (g x) S) :
    evE Φ (.lc nw el t it (some c) own) ρ S = mk nw ((xs.filter p).map g) S := by
  simp only [evE]
  rw [h1, Res.bind_ok, lcL_filterA p gd g hst, Res.nox_ok, Res.bind_ok]
  intro d hd
  obtain ⟨ρ2, e1, e2, e3⟩ := h2 d hd
  simp only [e1, evIf, e2, Res.bind_ok, toB]
  cases p d with
  | false => simp
  | true => simp [e3]
theorem walk_ref {Φ : Tab} {ρ : Env} {S S1 : Store} {a : E} {n : Nat} {ds : List D} (ha : evE Φ a ρ S = .ok (.ref n) S1) (hn : S1[n]? = some (.lst ds)) : evIt Φ (.walk a) ρ S = .ok ⟨ds, some (n, .lst ds)⟩ S1 := by
  simp only [evIt]
  rw [ha, Res.bind_ok]
  simp only [seqOf, lstOf, cellOf, hn, Option.map_some]
theorem fits_flat : ∀ (l : List En) (n : Nat), fits (n + 1) (l.map En.d) = true := fun l n => by
  rw [fits_all, List.all_map, List.all_eq_true]
  exact fun _ _ => rfl
theorem ne_nil {Φ : Tab} {ρ : Env} {S : Store} {a : E} {d : D} {l : List En} (ha : evE Φ a ρ S = .ok d S) (h : snap S d = .lst (l.map En.d)) : evE Φ (.cmp .ne a (.lst false [])) ρ S = .ok (.bl (!l.isEmpty)) S := by
  have e : evE Φ (.cmp .ne a (.lst false [])) ρ S = cmpop .ne d (.lst []) S := by
    simp only [evE, evEs, ha, Res.bind_ok, mk, Bool.false_eq_true, if_false]
  rw [e]
  show (if (fit 60 (snap S d) && fit 60 (D.lst [])) = true then Res.ok (D.bl (!eqv (snap S d) (D.lst []))) S else .stuck) = _
  have h2 : fit 60 (.lst (l.map En.d)) = true := fits_flat l 58
  rw [h, h2]
  cases l with
  | nil => rfl
  | cons x xs => rfl
theorem snap_ref {S : Store} {n : Nat} {ds : List D} (h : S[n]? = some (.lst ds)) : snap S (.ref n) = .lst ds := by simp only [snap, h]
theorem eqv_en (a b : En) : eqv a.d b.d = (a.1 == b.1 && (a.2 == b.2 && true)) := rfl
theorem eqv_en_iff {a b : En} : eqv a.d b.d = true ↔ a = b := by
  rw [eqv_en, Bool.and_true, Bool.and_eq_true, beq_iff_eq, beq_iff_eq]
  exact ⟨fun h => Prod.ext h.1 h.2, fun h => by rw [h]; exact ⟨rfl, rfl⟩⟩
theorem remove_ok {Φ : Tab} {ρ : Env} {S : Store} {n : Nat} {l : List En} {e : En} {o a : E} (ho : evE Φ o ρ S = .ok (.ref n) S) (ha : evE Φ a ρ S = .ok e.d S) (h : S[n]? = some (.lst (l.map En.d))) (he : e ∈ l) :
    ∃ j : Nat, l[j]? = some e ∧ evE Φ (.mt .remove o [a]) ρ S = .ok .non (S.set n (.lst ((l.eraseIdx j).map En.d))) := by
  cases hf : (l.map En.d).findIdx? (fun d => eqv d e.d) with
  | none =>
    rw [List.findIdx?_eq_none_iff] at hf
    have := hf e.d (List.mem_map.mpr ⟨e, he, rfl⟩)
    rw [eqv_en_iff.mpr rfl] at this
    cases this
  | some j =>
    obtain ⟨hj, hp, _⟩ := List.findIdx?_eq_some_iff_getElem.mp hf
    rw [List.getElem_map] at hp
    rw [List.length_map] at hj
    refine ⟨j, by rw [List.getElem?_eq_getElem hj, eqv_en_iff.mp hp], ?_⟩
    simp only [evE, evEs, ho, ha, Res.bind_ok, mtTy, h, if_true, mtSem]
    have h1 : (fit 60 e.d && fits 60 (l.map En.d)) = true := by
      rw [fits_flat l 59]
      rfl
    rw [if_pos h1, hf]
    simp only [map_erase]
theorem set_dT {S : Store} {n : Nat} {kvs : List (List Key × D)} (h : S[n]? = some (.dT kvs false)) (hl : kvs.length < line) (a b : En) : setitem (.ref n) a.d b.d S = .ok () (S.set n (.dT (put kvs [.inr a.1, .inl a.2] b.d) false)) := by
  simp only [setitem, h, En.d, tkeyOf, keysOf, keyOf, if_pos hl]
theorem sub_e {Φ : Tab} {ρ : Env} {S S1 : Store} {o i e : E} {v x y : D} (he : evE Φ e ρ S = .ok v S) (ho : evE Φ o ρ S = .ok x S) (hi : evE Φ i ρ S = .ok y S) (h : setitem x y v S = .ok () S1) : evS Φ (.sub o i e) ρ S = .ok (.nx ρ) S1 := by
  simp only [evS, he, ho, hi, h, Res.st_ok]
/-- what the joined dict holds -/
def JK (Q : En → Prop) (kvs : List (List Key × D)) : Prop := ∀ p ∈ kvs, ∃ a b : En, p.1 = [.inr a.1, .inl a.2] ∧ p.2 = b.d ∧ Q a ∧ Q b
theorem put_jk {Q : En → Prop} {kvs : List (List Key × D)} (h : JK Q kvs) {a b : En} (ha : Q a) (hb : Q b) : JK Q (put kvs [.inr a.1, .inl a.2] b.d) := by
  intro p m
  unfold put at m
  split at m
  · obtain ⟨q, mq, rfl⟩ := List.mem_map.mp m
    obtain ⟨c, d, e1, e2, h1, h2⟩ := h q mq
    split
    · exact ⟨c, b, e1, rfl, h1, hb⟩
    · exact ⟨c, d, e1, e2, h1, h2⟩
  · rcases List.mem_append.mp m with m | m
    · exact h p m
    · rw [List.mem_singleton] at m
      subst m
      exact ⟨a, b, rfl, rfl, ha, hb⟩
theorem put_len {κ : Type} [DecidableEq κ] (kvs : List (κ × D)) (k : κ) (d : D) : (put kvs k d).length ≤ kvs.length + 1 := by
  unfold put
  split
  · rw [List.length_map]
    omega
  · rw [List.length_append]
    simp
structure Jo (R R' : Store) (f j : Nat) (Q : En → Prop) (k : Nat) : Prop where
  len : R'.length = R.length + 1
  fr : ∃ free : List En, R'[f]? = some (.lst (free.map En.d)) ∧ free.length ≤ 1000 ∧ ∀ e ∈ free, Q e
  jd : ∃ kvs, R'[j]? = some (.dT kvs false) ∧ kvs.length ≤ 2 * k ∧ JK Q kvs
  jo : ∃ jos : List (En × En), R'[R.length]? = some (.lst (jos.map joD)) ∧ jos.length ≤ k ∧ ∀ p ∈ jos, p.1.ok ∧ p.2.ok
  rest : ∀ i, i ≠ f → i ≠ j → i < R.length → R'[i]? = R[i]?
theorem get_set {R : Store} {i k : Nat} {c c' : Cell} (h : R[k]? = some c') (hi : i ≠ k) : (R.set i c)[k]? = some c' := by
  rw [List.getElem?_set_ne hi]
  exact h
theorem get_self {R : Store} {i : Nat} {c c' : Cell} (h : R[i]? = some c') : (R.set i c)[i]? = some c := by
  rw [List.getElem?_set_self (List.getElem?_eq_some_iff.mp h).1]
theorem joints_ok {R S : Store} {f j : Nat} {free : List En} {Q : En → Prop} (hS : Dk R S) (hf : R[f]? = some (.lst (free.map En.d))) (hj : R[j]? = some (.dT [] false)) (hfj : f ≠ j) (hl : free.length ≤ 1000) (hq : ∀ e ∈ free, Q e) (hQ : ∀ e, Q e → e.ok) :
    ∃ R' S', F__law_joints [.ref 1, .ref (f + 2), .ref (j + 2)] S = .ok (.ref (R.length + 2)) S' ∧ Dk R' S' ∧ Jo R R' f j Q 16 := by
  have hfl : f < R.length := (List.getElem?_eq_some_iff.mp hf).1
  have hjl : j < R.length := (List.getElem?_eq_some_iff.mp hj).1
  have hlen := dk_len hS
  have t1 := new_e (Φ := T__law_joints) (i := 3) (ρ := [some (.ref 1), some (.ref (f + 2)), some (.ref (j + 2)), none, none, none, none, none, none]) (S := S)
  rw [hlen] at t1
  have h1 := dk_app hS [.lst (([] : List (En × En)).map joD)]
  obtain ⟨n, S2, e2, h2, n0, n1⟩ := draw_ok h1 (many := 17) (by omega) (by omega)
  have ap : ∀ {i : Nat} {c : Cell}, R[i]? = some c → (R ++ [.lst []])[i]? = some c := fun {i c} h => by
    rw [List.getElem?_append_left (List.getElem?_eq_some_iff.mp h).1]
    exact h
  obtain ⟨ρ3, S3, e3, ⟨t4, t5, t6, t7, rfl⟩, R3, h3, J3⟩ := for_rng (Φ := T__law_joints) (i := 4) (a := .call 1 [.var 0, .lit (.int 17)]) (n := n) (S := S ++ [.lst []])
    (body := [.asg (.nm 5) (.ife (.cmp .ne (.var 1) (.lst false [])) (.call 2 [.var 0, .var 1]) (.tup [.lit (.str ""), .lit (.int 0)])),
      .asg (.nm 6) (.lc false (.var 8) (.nm 8) (.walk (.var 1)) (some (.cmp .ne (.idx (.var 8) (.lit (.int 0))) (.idx (.var 5) (.lit (.int 0))))) [8]),
      .ite (.and_ [.cmp .ne (.var 6) (.lst false []), .cmp .ne (.var 1) (.lst false [])])
        [.asg (.nm 7) (.call 2 [.var 0, .var 6]),
         .expr (.mt .append (.var 3) [.tup [.var 5, .var 7]]),
         .sub (.var 2) (.var 5) (.var 7),
         .sub (.var 2) (.var 7) (.var 5),
         .expr (.mt .remove (.var 1) [.var 5]),
         .expr (.mt .remove (.var 1) [.var 7])] []])
    (ρ := [some (.ref 1), some (.ref (f + 2)), some (.ref (j + 2)), some (.ref (R.length + 2)), none, none, none, none, none])
    (fun k ρ S' => (∃ t4 t5 t6 t7, ρ = [some (.ref 1), some (.ref (f + 2)), some (.ref (j + 2)), some (.ref (R.length + 2)), t4, t5, t6, t7, none]) ∧ ∃ R', Dk R' S' ∧ Jo R R' f j Q k)
    (call2 rfl rfl rfl e2) n0 (by omega) ⟨⟨none, none, none, none, rfl⟩, _, h2, by simp, ⟨free, ap hf, hl, hq⟩, ⟨[], ap hj, by simp, fun _ m => nomatch m⟩, ⟨[], by simp, by simp, fun _ m => nomatch m⟩, fun i _ _ hi => List.getElem?_append_left hi⟩ (by
      rintro k ρ S4 hk ⟨⟨t4, t5, t6, t7, rfl⟩, R4, h4, J4⟩
      have jl := J4.len
      obtain ⟨fr, f4, fl, fq⟩ := J4.fr
      obtain ⟨kvs, j4, kl, kq⟩ := J4.jd
      obtain ⟨jos, o4, ol, oq⟩ := J4.jo
      have up : ∀ {m : Nat}, Jo R R4 f j Q k → Jo R R4 f j Q (k + 1) := fun {_} h => ⟨h.len, h.fr, by
        obtain ⟨a, b, c, d⟩ := h.jd
        exact ⟨a, b, by omega, d⟩, by
        obtain ⟨a, b, c, d⟩ := h.jo
        exact ⟨a, b, by omega, d⟩, h.rest⟩
      have g4 : ∀ {i : Nat} {c : Cell} {S : Store}, Dk R4 S → R4[i]? = some c → S[i + 2]? = some c := fun {i c S} h e => (dk_get h i).trans e
      -- the others
      have oth : ∀ (one : En) {S : Store}, Dk R4 S → evE T__law_joints (.lc false (.var 8) (.nm 8) (.walk (.var 1)) (some (.cmp .ne (.idx (.var 8) (.lit (.int 0))) (.idx (.var 5) (.lit (.int 0))))) [8])
          [some (.ref 1), some (.ref (f + 2)), some (.ref (j + 2)), some (.ref (R.length + 2)), some (.int k), some one.d, t6, t7, none] S = .ok (.lst ((fr.filter fun e => !(e.1 == one.1)).map En.d)) S := fun one {S} h =>
        (lc_filter (nw := false) (fun e : En => !(e.1 == one.1)) En.d En.d (walk_ref rfl (g4 h f4)) (g4 h f4) fun e m => ⟨_, rfl, rfl, rfl⟩).trans rfl
      have neF : ∀ (ρ : Env) {S : Store}, ρ[1]? = some (some (.ref (f + 2))) → Dk R4 S → evE T__law_joints (.cmp .ne (.var 1) (.lst false [])) ρ S = .ok (.bl (!fr.isEmpty)) S := fun ρ {S} hρ h =>
        ne_nil (d := .ref (f + 2)) (by simp only [evE, hρ]) (snap_ref (g4 h f4))
      by_cases h0 : fr = []
      · subst h0
        have c1 := neF [some (.ref 1), some (.ref (f + 2)), some (.ref (j + 2)), some (.ref (R.length + 2)), some (.int k), t5, t6, t7, none] rfl h4
        have o1 := oth ("", 0) h4
        exact ⟨_, S4, seq (asg_e (ife_f c1 (d := En.d ("", 0)) rfl) rfl) (seq (asg_e o1 rfl) (seq ((ite_f (and2_e (p := false) (ne_nil (l := []) (d := .lst []) rfl rfl) (neF _ rfl h4))).trans nil_e) nil_e)), ⟨_, _, _, _, rfl⟩, R4, h4, up (m := 0) J4⟩
      obtain ⟨one, S5, e5, q5, m5, h5⟩ := pick_of (g := En.d) (fun _ => rfl) h4 (x := .ref (f + 2)) (l := fr) (.inr ⟨f, rfl, f4⟩) h0 fl fq
      have c1 := neF [some (.ref 1), some (.ref (f + 2)), some (.ref (j + 2)), some (.ref (R.length + 2)), some (.int k), t5, t6, t7, none] rfl h4
      have hne : fr.isEmpty = false := by simpa using h0
      rw [hne] at c1
      have o1 := oth one h5
      by_cases h6 : (fr.filter fun e => !(e.1 == one.1)) = []
      · rw [h6] at o1
        exact ⟨_, S5, seq (asg_e (ife_t c1 (d := one.d) (call2 rfl rfl rfl e5)) rfl) (seq (asg_e o1 rfl) (seq ((ite_f (and2_e (p := false) (ne_nil (l := []) (d := .lst []) rfl rfl) (neF _ rfl h5))).trans nil_e) nil_e)), ⟨_, _, _, _, rfl⟩, R4, h5, up (m := 0) J4⟩
      obtain ⟨other, S6, e6, q6, m6, h7⟩ := pick_of (g := En.d) (Q := Q) (fun _ => rfl) h5 (x := .lst ((fr.filter fun e => !(e.1 == one.1)).map En.d)) (l := fr.filter fun e => !(e.1 == one.1)) (.inl rfl) h6 (Nat.le_trans (List.length_filter_le ..) fl) fun y m => fq y (List.mem_filter.mp m).1
      obtain ⟨m7, ne7⟩ := List.mem_filter.mp m6
      have hne7 : other ≠ one := fun z => by
        rw [z] at ne7
        simp at ne7
      have hne6 : (fr.filter fun e => !(e.1 == one.1)).isEmpty = false := by simpa using h6
      have c2 : evE T__law_joints (.and_ [.cmp .ne (.var 6) (.lst false []), .cmp .ne (.var 1) (.lst false [])]) [some (.ref 1), some (.ref (f + 2)), some (.ref (j + 2)), some (.ref (R.length + 2)), some (.int k), some one.d, some (.lst ((fr.filter fun e => !(e.1 == one.1)).map En.d)), t7, none] S5 = .ok (.bl true) S5 := by
        have z := and2_e (ne_nil (Φ := T__law_joints) (a := .var 6) (ρ := [some (.ref 1), some (.ref (f + 2)), some (.ref (j + 2)), some (.ref (R.length + 2)), some (.int k), some one.d, some (.lst ((fr.filter fun e => !(e.1 == one.1)).map En.d)), t7, none]) (S := S5) (l := fr.filter fun e => !(e.1 == one.1)) rfl rfl) (neF _ rfl h5)
        rw [hne, hne6] at z
        exact z
      -- the pair
      have hRf : R.length ≠ f := by omega
      have hRj : R.length ≠ j := by omega
      have d1 := append_s (Φ := T__law_joints) (o := .var 3) (a := .tup [.var 5, .var 7]) (n := R.length + 2) (x := joD (one, other)) (es := jos.map joD) (ds := jos.map joD)
        (ρ := [some (.ref 1), some (.ref (f + 2)), some (.ref (j + 2)), some (.ref (R.length + 2)), some (.int k), some one.d, some (.lst ((fr.filter fun e => !(e.1 == one.1)).map En.d)), some other.d, none]) (S := S6) (S1 := S6) rfl (g4 h7 o4) rfl (g4 h7 o4) (by
          rw [List.length_map]
          unfold line
          omega)
      have h8 := dk_set h7 R.length (.lst (jos.map joD ++ [joD (one, other)]))
      have o8 := get_self (c := .lst (jos.map joD ++ [joD (one, other)])) o4
      have f8 := get_set (c := .lst (jos.map joD ++ [joD (one, other)])) f4 hRf
      have j8 := get_set (c := .lst (jos.map joD ++ [joD (one, other)])) j4 hRj
      -- joined
      have d2 := set_dT ((dk_get h8 j).trans j8) (by unfold line; omega) one other
      have h9 := dk_set h8 j (.dT (put kvs [.inr one.1, .inl one.2] other.d) false)
      have o9 := get_set (c := .dT (put kvs [.inr one.1, .inl one.2] other.d) false) o8 (Ne.symm hRj)
      have f9 := get_set (c := .dT (put kvs [.inr one.1, .inl one.2] other.d) false) f8 (Ne.symm hfj)
      have j9 := get_self (c := .dT (put kvs [.inr one.1, .inl one.2] other.d) false) j8
      have l1 := put_len kvs [.inr one.1, .inl one.2] other.d
      have l2 := put_len (put kvs [.inr one.1, .inl one.2] other.d) [.inr other.1, .inl other.2] one.d
      have d3 := set_dT ((dk_get h9 j).trans j9) (by unfold line; omega) other one
      have h10 := dk_set h9 j (.dT (put (put kvs [.inr one.1, .inl one.2] other.d) [.inr other.1, .inl other.2] one.d) false)
      have o10 := get_set (c := .dT (put (put kvs [.inr one.1, .inl one.2] other.d) [.inr other.1, .inl other.2] one.d) false) o9 (Ne.symm hRj)
      have f10 := get_set (c := .dT (put (put kvs [.inr one.1, .inl one.2] other.d) [.inr other.1, .inl other.2] one.d) false) f9 (Ne.symm hfj)
      have j10 := get_self (c := .dT (put (put kvs [.inr one.1, .inl one.2] other.d) [.inr other.1, .inl other.2] one.d) false) j9
      -- no longer free
      obtain ⟨r1, x1, d4⟩ := remove_ok (Φ := T__law_joints) (o := .var 1) (a := .var 5) (n := f + 2) (ρ := [some (.ref 1), some (.ref (f + 2)), some (.ref (j + 2)), some (.ref (R.length + 2)), some (.int k), some one.d, some (.lst ((fr.filter fun e => !(e.1 == one.1)).map En.d)), some other.d, none]) rfl rfl ((dk_get h10 f).trans f10) m5
      have h11 := dk_set h10 f (.lst ((fr.eraseIdx r1).map En.d))
      have o11 := get_set (c := .lst ((fr.eraseIdx r1).map En.d)) o10 (Ne.symm hRf)
      have f11 := get_self (c := .lst ((fr.eraseIdx r1).map En.d)) f10
      have j11 := get_set (c := .lst ((fr.eraseIdx r1).map En.d)) j10 hfj
      have m11 : other ∈ fr.eraseIdx r1 := by
        rw [List.mem_eraseIdx_iff_getElem?]
        obtain ⟨i, hi⟩ := List.mem_iff_getElem?.mp m7
        refine ⟨i, fun z => ?_, hi⟩
        rw [z, x1] at hi
        exact hne7 (Option.some.inj hi).symm
      obtain ⟨r2, x2, d5⟩ := remove_ok (Φ := T__law_joints) (o := .var 1) (a := .var 7) (n := f + 2) (ρ := [some (.ref 1), some (.ref (f + 2)), some (.ref (j + 2)), some (.ref (R.length + 2)), some (.int k), some one.d, some (.lst ((fr.filter fun e => !(e.1 == one.1)).map En.d)), some other.d, none]) rfl rfl ((dk_get h11 f).trans f11) m11
      have h12 := dk_set h11 f (.lst (((fr.eraseIdx r1).eraseIdx r2).map En.d))
      have o12 := get_set (c := .lst (((fr.eraseIdx r1).eraseIdx r2).map En.d)) o11 (Ne.symm hRf)
      have f12 := get_self (c := .lst (((fr.eraseIdx r1).eraseIdx r2).map En.d)) f11
      have j12 := get_set (c := .lst (((fr.eraseIdx r1).eraseIdx r2).map En.d)) j11 hfj
      refine ⟨_, _, seq (asg_e (ife_t c1 (d := one.d) (call2 rfl rfl rfl e5)) rfl) (seq (asg_e o1 rfl) (seq ((ite_t c2).trans (seq (asg_e (call2 rfl rfl rfl e6) rfl) (seq (expr_e d1) (seq (sub_e rfl rfl rfl d2) (seq (sub_e rfl rfl rfl d3) (seq (expr_e d4) (seq (expr_e d5) nil_e))))))) nil_e)), ⟨_, _, _, _, rfl⟩, _, h12, ?_, ⟨_, f12, ?_, fun e m => fq e (List.mem_of_mem_eraseIdx (List.mem_of_mem_eraseIdx m))⟩, ⟨_, j12, by omega, put_jk (put_jk kq q5 q6) q6 q5⟩, ⟨jos ++ [(one, other)], by rw [List.map_append]; exact o12, by rw [List.length_append]; show jos.length + 1 ≤ _; omega, fun p m => ?_⟩, fun i i1 i2 i3 => ?_⟩
      · simp only [List.length_set]
        exact jl
      · exact Nat.le_trans (List.length_eraseIdx_le ..) (Nat.le_trans (List.length_eraseIdx_le ..) fl)
      · rcases List.mem_append.mp m with m | m
        · exact oq p m
        · rw [List.mem_singleton] at m
          subst m
          exact ⟨hQ _ q5, hQ _ q6⟩
      · rw [List.getElem?_set_ne (Ne.symm i1), List.getElem?_set_ne (Ne.symm i1), List.getElem?_set_ne (Ne.symm i2), List.getElem?_set_ne (Ne.symm i2), List.getElem?_set_ne (by omega)]
        exact J4.rest i i1 i2 i3)
  have J : Jo R R3 f j Q 16 := ⟨J3.len, J3.fr, by
    obtain ⟨a, b, c, d⟩ := J3.jd
    exact ⟨a, b, by omega, d⟩, by
    obtain ⟨a, b, c, d⟩ := J3.jo
    exact ⟨a, b, by omega, d⟩, J3.rest⟩
  refine ⟨R3, S3, fn_keep (seq t1 (seq e3 (ret_e rfl))) ?_, h3, J⟩
  show ¬ (R.length + 2 < S.length)
  omega
end K02

set_option linter.all false
set_option autoImplicit false
set_option maxRecDepth 100000
set_option maxHeartbeats 1000000
namespace K02
open PySem (Str)
open Cl

theorem look_put_self {κ : Type} [DecidableEq κ] : ∀ (kvs : List (κ × D)) (k : κ) (v : D), look (put kvs k v) k = some v := by
  have hm : ∀ (kvs : List (κ × D)) (k : κ) (v : D), (kvs.any fun kv => decide (kv.1 = k)) = true → look (kvs.map fun kv => if kv.1 = k then (kv.1, v) else kv) k = some v := by
    intro kvs k v
    induction kvs with
    | nil => exact fun h => nomatch h
    | cons p r ih =>
      intro h
      rw [List.map_cons]
      by_cases hp : p.1 = k
      · rw [if_pos hp, look, if_pos hp]
      · rw [if_neg hp, look, if_neg hp]
        exact ih (by simpa [hp] using h)
  have ha : ∀ (kvs : List (κ × D)) (k : κ) (v : D), (kvs.any fun kv => decide (kv.1 = k)) = false → look (kvs ++ [(k, v)]) k = some v := by
    intro kvs k v
    induction kvs with
    | nil => exact fun _ => by simp [look]
    | cons p r ih =>
      intro h
      rw [List.any_cons, Bool.or_eq_false_iff] at h
      rw [List.cons_append, look, if_neg (by simpa using h.1)]
      exact ih h.2
  intro kvs k v
  unfold put
  cases h : (kvs.any fun kv => decide (kv.1 = k)) with
  | true => rw [if_pos rfl]; exact hm kvs k v h
  | false => rw [if_neg (by decide)]; exact ha kvs k v h
theorem look_put_ne {κ : Type} [DecidableEq κ] (kvs : List (κ × D)) {k q : κ} (v : D) (h : k ≠ q) : look (put kvs k v) q = look kvs q := by
  unfold put
  split
  · rename_i h1
    clear h1
    induction kvs with
    | nil => rfl
    | cons p r ih =>
      rw [List.map_cons]
      by_cases hp : p.1 = k
      · rw [if_pos hp, look, look, if_neg (fun z => h (hp.symm.trans z)), if_neg (fun z => h (hp.symm.trans z))]
        exact ih
      · rw [if_neg hp, look, look, ih]
  · rename_i h1
    clear h1
    induction kvs with
    | nil => show look [(k, v)] q = _; simp [look, h]
    | cons p r ih =>
      rw [List.cons_append, look, look, ih]
theorem look_mem {κ : Type} [DecidableEq κ] : ∀ {kvs : List (κ × D)} {p : κ × D}, p ∈ kvs → ∃ p' ∈ kvs, p'.1 = p.1 ∧ look kvs p.1 = some p'.2
  | q :: r, p, m => by
    by_cases h : q.1 = p.1
    · exact ⟨q, List.mem_cons_self .., h, by rw [look, if_pos h]⟩
    · rcases List.mem_cons.mp m with rfl | m
      · exact absurd rfl h
      · obtain ⟨p', m', e1, e2⟩ := look_mem m
        exact ⟨p', List.mem_cons_of_mem _ m', e1, by rw [look, if_neg h]; exact e2⟩
def Qk (kvs : List (Key × D)) (e : En) : Prop := e.ok ∧ ∃ kd : Str, look kvs (.inr e.1) = some (.str kd) ∧ kindOk kd e
def isPl (kvs : List (Key × D)) (e : En) : Bool := match look kvs (.inr e.1) with
  | some (.str k) => k == "plain"
  | _ => false
theorem set_dK {S : Store} {n : Nat} {kvs : List (Key × D)} (h : S[n]? = some (.dK kvs false)) (hl : kvs.length < line) (x : Str) (d : D) : setitem (.ref n) (.str x) d S = .ok () (S.set n (.dK (put kvs (.inr x) d) false)) := by
  simp only [setitem, h, keyOf, if_pos hl]
theorem add_lstS {Φ : Tab} {ρ : Env} {S : Store} {a b : E} {n : Nat} {xs ys : List D} (ha : evE Φ a ρ S = .ok (.ref n) S) (hb : evE Φ b ρ S = .ok (.lst ys) S) (hn : S[n]? = some (.lst xs)) (hl : xs.length + ys.length ≤ line) : evE Φ (.bin .add true a b) ρ S = .ok (.ref S.length) (S ++ [.lst (xs ++ ys)]) := add_lst ha hb hn hl
/-- plain: so many ends -/
def manyD : D := .dct [.inr "plain", .inr "points", .inr "crossing"] [.int 2, .int 3, .int 4]
theorem many_ok {k : Str} (h : k ∈ kinds) (S : Store) : ∃ m : Int, getitem manyD (.str k) S = .ok (.int m) S ∧ 0 ≤ m ∧ m ≤ 4 ∧ (k = "plain" → m ≤ 2) := by
  have : k = "plain" ∨ k = "points" ∨ k = "crossing" := by simpa [kinds] using h
  rcases this with rfl | rfl | rfl
  · exact ⟨2, rfl, by decide⟩
  · exact ⟨3, rfl, by decide⟩
  · exact ⟨4, rfl, by decide⟩
/-- the keys of what is joined -/
theorem jk_keys {Q : En → Prop} : ∀ {kvs : List (List Key × D)}, JK Q kvs → ∃ as : List En, (kvs.map fun kv => D.tup (kv.1.map ofKey)) = as.map En.d ∧ (∀ a ∈ as, Q a) ∧ as.length = kvs.length ∧ ∀ a ∈ as, ∃ d, ([.inr a.1, .inl a.2], d) ∈ kvs
  | [], _ => ⟨[], rfl, (fun _ m => nomatch m), rfl, (fun _ m => nomatch m)⟩
  | p :: r, h => by
    obtain ⟨a, b, e1, e2, qa, qb⟩ := h p (List.mem_cons_self ..)
    obtain ⟨as, e3, q3, l3, m3⟩ := jk_keys fun z m => h z (List.mem_cons_of_mem _ m)
    refine ⟨a :: as, by rw [List.map_cons, List.map_cons, e3, e1]; rfl, fun x m => ?_, by rw [List.length_cons, List.length_cons, l3], fun x m => ?_⟩
    · rcases List.mem_cons.mp m with rfl | m
      · exact qa
      · exact q3 x m
    · rcases List.mem_cons.mp m with rfl | m
      · exact ⟨p.2, by rw [← e1]; exact List.mem_cons_self ..⟩
      · obtain ⟨d, m⟩ := m3 x m
        exact ⟨d, List.mem_cons_of_mem _ m⟩
theorem jk_look {Q : En → Prop} {kvs : List (List Key × D)} (h : JK Q kvs) {a : En} {d : D} (m : (([.inr a.1, .inl a.2] : List Key), d) ∈ kvs) : ∃ b : En, look kvs [.inr a.1, .inl a.2] = some b.d ∧ Q b := by
  obtain ⟨p, mp, e1, e2⟩ := look_mem m
  obtain ⟨_, b, _, e3, _, qb⟩ := h p mp
  exact ⟨b, by rw [← e3]; exact e2, qb⟩
end K02

set_option linter.all false
set_option autoImplicit false
set_option maxRecDepth 100000
set_option maxHeartbeats 1000000
namespace K02
open PySem (Str)
open Cl

def kindsIn : List Str := ["plain", "plain", "plain", "points", "points", "crossing"]
theorem kindsIn_ok : ∀ k ∈ kindsIn, k ∈ kinds := by decide
def lb1 : List Cl.S :=
  [.asg (.nm 12) (.call 2 [(.var 0), (.lst false [(.lit (.str "plain")), (.lit (.str "plain")), (.lit (.str "plain")), (.lit (.str "points")), (.lit (.str "points")), (.lit (.str "crossing"))])]),
    .asg (.nm 13) (.call 3 [(.var 0), (.var 1)]),
    .expr (.mt .append (.var 9) [(.tup [(.var 13), (.var 12)])]),
    .sub (.var 7) (.var 13) (.var 12),
    .asg (.nm 5) (.bin .add true (.var 5) (.lc false (.tup [(.var 13), (.var 14)]) (.nm 14) (.rng1 (.idx (.var 6) (.var 12))) none [14]))]
def en1 (u n : Nat) (t x5 t4 t12 t13 : Option D) : Env := [some (.ref 1), some (.ref (u + 2)), some (.int 12), t, t4, x5, some manyD, some (.ref (n + 2)), some (.ref (n + 2 + 2)), some (.ref (n + 3 + 2)), some (.ref (n + 4 + 2)), some (.ref (n + 5 + 2)), t12, t13, none]
structure C1 (R1 R' : Store) (u n N k m : Nat) (kvs : List (Key × D)) : Prop where
  len : n + 6 ≤ R'.length
  mm : m = n + 1 ∨ n + 6 ≤ m
  nms : ∃ names : List Str, R'[u]? = some (.lst (names.map .str)) ∧ names.length = N + k ∧ ∃ free : List En, R'[m]? = some (.lst (free.map En.d)) ∧ free.length ≤ 4 * k ∧ ∀ e ∈ free, Qk kvs e ∧ e.1 ∈ names
  ks : R'[n]? = some (.dK kvs false)
  kl : kvs.length ≤ k
  sts : ∃ sts : List (Str × Str), R'[n + 3]? = some (.lst (sts.map stD)) ∧ sts.length ≤ k ∧ ∀ s ∈ sts, NameOk s.1 ∧ s.2 ∈ kinds
  rest : ∀ i, i ≠ u → i ≠ n → i ≠ n + 3 → i < n + 6 → R'[i]? = R1[i]?
theorem step1 {R1 R4 S4 : Store} {u n N k m : Nat} {kvs : List (Key × D)} {t4 t12 t13 : Option D} (hu : u < n) (hN : N ≤ 20) (hk : k < 12) (h4 : Dk R4 S4) (J : C1 R1 R4 u n N k m kvs) :
    ∃ ρ' S', evSs T__law_checked lb1 (en1 u n (some (.int k)) (some (.ref (m + 2))) t4 t12 t13) S4 = .ok (.nx ρ') S' ∧ ∃ t12 t13 R' m' kvs', ρ' = en1 u n (some (.int k)) (some (.ref (m' + 2))) t4 t12 t13 ∧ Dk R' S' ∧ C1 R1 R' u n N (k + 1) m' kvs' := by
  have jl := J.len
  have jm := J.mm
  obtain ⟨names, n4, nl, free, f4, fl, fq⟩ := J.nms
  have k4 := J.ks
  have kl := J.kl
  obtain ⟨sts, s4, sl, sq⟩ := J.sts
  obtain ⟨kd, S5, e5, q5, _, h5⟩ := pick_of (g := D.str) (Q := fun k => k ∈ kinds) (fun _ => rfl) h4 (x := .lst (kindsIn.map D.str)) (l := kindsIn) (.inl rfl) (by decide) (by decide) kindsIn_ok
  obtain ⟨x, S6, e6, q6, f6, h6⟩ := name_ok h5 n4 (by omega)
  have n6 := get_self (c := .lst ((names ++ [x]).map .str)) n4
  have f6m := get_set (c := .lst ((names ++ [x]).map .str)) f4 (show u ≠ m by omega)
  have k6 := get_set (c := .lst ((names ++ [x]).map .str)) k4 (show u ≠ n by omega)
  have s6 := get_set (c := .lst ((names ++ [x]).map .str)) s4 (show u ≠ n + 3 by omega)
  have d1 := append_s (Φ := T__law_checked) (o := .var 9) (a := .tup [.var 13, .var 12]) (n := n + 3 + 2) (x := stD (x, kd)) (es := sts.map stD) (ds := sts.map stD) (ρ := en1 u n (some (.int k)) (some (.ref (m + 2))) t4 (some (.str kd)) (some (.str x))) (S := S6) (S1 := S6) rfl ((dk_get h6 _).trans s6) rfl ((dk_get h6 _).trans s6) (by
    rw [List.length_map]
    unfold line
    omega)
  have h7 := dk_set h6 (n + 3) (.lst (sts.map stD ++ [stD (x, kd)]))
  have n7 := get_set (c := .lst (sts.map stD ++ [stD (x, kd)])) n6 (show n + 3 ≠ u by omega)
  have f7 := get_set (c := .lst (sts.map stD ++ [stD (x, kd)])) f6m (show n + 3 ≠ m by omega)
  have k7 := get_set (c := .lst (sts.map stD ++ [stD (x, kd)])) k6 (show n + 3 ≠ n by omega)
  have s7 := get_self (c := .lst (sts.map stD ++ [stD (x, kd)])) s6
  have d2 := set_dK ((dk_get h7 n).trans k7) (by unfold line; omega) x (.str kd)
  have h8 := dk_set h7 n (.dK (put kvs (.inr x) (.str kd)) false)
  have n8 := get_set (c := .dK (put kvs (.inr x) (.str kd)) false) n7 (show n ≠ u by omega)
  have f8 := get_set (c := .dK (put kvs (.inr x) (.str kd)) false) f7 (show n ≠ m by omega)
  have k8 := get_self (c := .dK (put kvs (.inr x) (.str kd)) false) k7
  have s8 := get_set (c := .dK (put kvs (.inr x) (.str kd)) false) s7 (show n ≠ n + 3 by omega)
  obtain ⟨mn, gm, g0, g1, g2⟩ := many_ok q5 (S6.set (n + 3 + 2) (.lst (sts.map stD ++ [stD (x, kd)])) |>.set (n + 2) (.dK (put kvs (.inr x) (.str kd)) false))
  have c1 := (lc_map (Φ := T__law_checked) (nw := false) (el := .tup [.var 13, .var 14]) (it := .rng1 (.idx (.var 6) (.var 12))) (t := .nm 14) (own := [14]) (ρ := en1 u n (some (.int k)) (some (.ref (m + 2))) t4 (some (.str kd)) (some (.str x))) (xs := List.range mn.toNat) (fun i : Nat => D.int (i : Int)) (fun i : Nat => En.d (x, (i : Int)))
    (rng1_e (idx_e rfl rfl gm) g0 (by omega)) trivial fun i m => ⟨_, rfl, rfl⟩)
  have e9 : (List.range mn.toNat).map (fun i : Nat => En.d (x, (i : Int))) = ((List.range mn.toNat).map fun i : Nat => ((x, (i : Int)) : En)).map En.d := by
    rw [List.map_map]
    rfl
  rw [e9] at c1
  have d3 := add_lst (Φ := T__law_checked) (a := .var 5) (ρ := en1 u n (some (.int k)) (some (.ref (m + 2))) t4 (some (.str kd)) (some (.str x))) rfl c1 ((dk_get h8 m).trans f8) (by
    simp only [List.length_map, List.length_range]
    unfold line
    omega)
  have h9 := dk_app h8 [.lst ((free ++ (List.range mn.toNat).map fun i : Nat => ((x, (i : Int)) : En)).map En.d)]
  have hlen := dk_len h8
  rw [← List.map_append] at d3
  rw [hlen] at d3
  have al : ∀ {i : Nat} {c : Cell} {R8 : Store} {l : Store}, R8[i]? = some c → (R8 ++ l)[i]? = some c := fun {i c R8 l} h => by
    rw [List.getElem?_append_left (List.getElem?_eq_some_iff.mp h).1]
    exact h
  refine ⟨_, _, seq (asg_e (call2 rfl rfl rfl e5) rfl) (seq (asg_e (call2 rfl rfl rfl e6) rfl) (seq (expr_e d1) (seq (sub_e rfl rfl rfl d2) (seq (asg_e d3 rfl) nil_e)))), _, _, _, _, _, rfl, h9, ?_, ?_, ⟨names ++ [x], al n8, by rw [List.length_append, nl]; show _ + 1 = _; omega, _, s_last, ?_, fun e m => ?_⟩, al k8, Nat.le_trans (put_len ..) (by omega), ⟨sts ++ [(x, kd)], (congrArg (fun z => (_ : Option Cell) = some (Cell.lst z)) (List.map_append (f := stD) (l₁ := sts) (l₂ := [(x, kd)]))).mpr (al s8), by rw [List.length_append]; show _ + 1 ≤ _; omega, fun p m => ?_⟩, fun i i1 i2 i3 i4 => ?_⟩
  · simp only [List.length_append, List.length_set]
    omega
  · simp only [List.length_set]
    exact .inr jl
  · simp only [List.length_append, List.length_map, List.length_range]
    omega
  · rcases List.mem_append.mp m with m | m
    · obtain ⟨⟨q1, kd', q2, q3⟩, q4⟩ := fq e m
      refine ⟨⟨q1, kd', ?_, q3⟩, List.mem_append.mpr (.inl q4)⟩
      rw [look_put_ne _ _ (fun z => f6 (by
        cases z
        exact q4))]
      exact q2
    · obtain ⟨i, mi, rfl⟩ := List.mem_map.mp m
      have hi := List.mem_range.mp mi
      refine ⟨⟨⟨q6, by show (0 : Int) ≤ (i : Int); omega, by show (i : Int) ≤ 3; omega⟩, kd, look_put_self .., q5, fun z => ?_⟩, List.mem_append.mpr (.inr (List.mem_singleton.mpr rfl))⟩
      have := g2 z
      show (i : Int) ≤ 1
      omega
  · rcases List.mem_append.mp m with m | m
    · exact sq p m
    · rw [List.mem_singleton] at m
      subst m
      exact ⟨q6, q5⟩
  · rw [List.getElem?_append_left (by simp only [List.length_set]; omega), List.getElem?_set_ne (Ne.symm i2), List.getElem?_set_ne (Ne.symm i3), List.getElem?_set_ne (Ne.symm i1)]
    exact J.rest i i1 i2 i3 i4
end K02

set_option linter.all false
set_option autoImplicit false
set_option maxRecDepth 100000
set_option maxHeartbeats 1000000
namespace K02
open PySem (Str)
open Cl

theorem snoc_map {α β : Type} (g : α → β) (l : List α) (x : α) : l.map g ++ [g x] = (l ++ [x]).map g := by rw [List.map_append]; rfl
structure C2 {α : Type} (G : α → D) (OK : α → Prop) (Q : En → Prop) (R2 R' : Store) (u g f N k : Nat) : Prop where
  len : R'.length = R2.length
  nms : ∃ names : List Str, R'[u]? = some (.lst (names.map .str)) ∧ names.length ≤ N + k
  fr : ∃ free : List En, R'[f]? = some (.lst (free.map En.d)) ∧ free.length ≤ 1000 ∧ ∀ e ∈ free, Q e
  out : ∃ xs : List α, R'[g]? = some (.lst (xs.map G)) ∧ xs.length ≤ k ∧ ∀ x ∈ xs, OK x
  rest : ∀ i, i ≠ u → i ≠ g → i ≠ f → R'[i]? = R2[i]?
theorem C2.up {α : Type} {G : α → D} {OK : α → Prop} {Q : En → Prop} {R2 R' : Store} {u g f N k : Nat} (h : C2 G OK Q R2 R' u g f N k) : C2 G OK Q R2 R' u g f N (k + 1) := ⟨h.len, by
  obtain ⟨a, b, c⟩ := h.nms
  exact ⟨a, b, by omega⟩, h.fr, by
  obtain ⟨a, b, c, d⟩ := h.out
  exact ⟨a, b, by omega, d⟩, h.rest⟩
def en2 (u n : Nat) (t x5 t4 t12 t13 t14 : Option D) : Env := [some (.ref 1), some (.ref (u + 2)), some (.int 12), t, t4, x5, some manyD, some (.ref (n + 2)), some (.ref (n + 2 + 2)), some (.ref (n + 3 + 2)), some (.ref (n + 4 + 2)), some (.ref (n + 5 + 2)), t12, t13, t14]
def popE : E := .mt .popAt (.var 5) [.call 1 [.var 0, .bi .len false [.var 5]]]
theorem pop_free {ρ : Env} {R S : Store} {f : Nat} {free : List En} {Q : En → Prop} (h0 : ρ[0]? = some (some (.ref 1))) (h5 : ρ[5]? = some (some (.ref (f + 2)))) (hS : Dk R S) (hf : R[f]? = some (.lst (free.map En.d))) (hl : free.length ≤ 1000) (hq : ∀ e ∈ free, Q e) (hn : free ≠ []) :
    ∃ (e : En) (S' : Store) (fr' : List En), evE T__law_checked popE ρ S = .ok e.d S' ∧ Q e ∧ Dk (R.set f (.lst (fr'.map En.d))) S' ∧ fr'.length ≤ 1000 ∧ ∀ e ∈ fr', Q e := by
  have hp := List.length_pos_iff.mpr hn
  obtain ⟨r, S1, e1, h1, r0, r1⟩ := draw_ok hS (many := (free.length : Int)) (by omega) (by omega)
  obtain ⟨e, _, eg⟩ := at_int (l := free) r0 r1
  have v0 : ∀ S, evE T__law_checked (.var 0) ρ S = .ok (.ref 1) S := fun S => by simp only [evE, h0]
  have v5 : ∀ S, evE T__law_checked (.var 5) ρ S = .ok (.ref (f + 2)) S := fun S => by simp only [evE, h5]
  have d := popAt_s (Φ := T__law_checked) (ρ := ρ) (o := .var 5) (a := .call 1 [.var 0, .bi .len false [.var 5]]) (d := e.d) (v5 S) ((dk_get hS f).trans hf) (call2 rfl (v0 S) (len_ref (v5 S) ((dk_get hS f).trans hf)) (by rw [List.length_map]; exact e1)) ((dk_get h1 f).trans hf) r0 (by rw [List.length_map]; exact r1) (by rw [List.getElem?_map, eg]; rfl)
  rw [map_erase] at d
  exact ⟨e, _, free.eraseIdx r.toNat, d, hq e (List.mem_of_getElem? eg), dk_set h1 f _, Nat.le_trans (List.length_eraseIdx_le ..) hl, fun e m => hq e (List.mem_of_mem_eraseIdx m)⟩
def lb2 : List Cl.S :=
  [.ite (.cmp .ne (.var 5) (.lst false []))
    [.expr (.mt .append (.var 10) [(.tup [(.call 3 [(.var 0), (.var 1)]), popE])])]
    []]
def gaOk (g : Str × En) : Prop := NameOk g.1 ∧ g.2.ok
theorem step2 {R2 R4 S4 : Store} {u n f N k : Nat} {Q : En → Prop} {t x4 t12 t13 t14 : Option D} (hQ : ∀ e, Q e → e.ok) (hu : u < n) (hf : n + 6 ≤ f) (hN : N ≤ 40) (hk : k < 12) (h4 : Dk R4 S4) (J : C2 gaD gaOk Q R2 R4 u (n + 4) f N k) :
    ∃ S', evSs T__law_checked lb2 (en2 u n t (some (.ref (f + 2))) x4 t12 t13 t14) S4 = .ok (.nx (en2 u n t (some (.ref (f + 2))) x4 t12 t13 t14)) S' ∧ ∃ R', Dk R' S' ∧ C2 gaD gaOk Q R2 R' u (n + 4) f N (k + 1) := by
  obtain ⟨names, n4, nl⟩ := J.nms
  obtain ⟨free, f4, fl, fq⟩ := J.fr
  obtain ⟨gas, g4, gl, gq⟩ := J.out
  have c1 := ne_nil (Φ := T__law_checked) (a := .var 5) (ρ := en2 u n t (some (.ref (f + 2))) x4 t12 t13 t14) (S := S4) (d := .ref (f + 2)) (l := free) rfl (snap_ref ((dk_get h4 f).trans f4))
  by_cases h0 : free = []
  · subst h0
    exact ⟨S4, seq ((ite_f c1).trans nil_e) nil_e, R4, h4, J.up⟩
  have hne : free.isEmpty = false := by simpa using h0
  rw [hne] at c1
  obtain ⟨x, S5, e5, q5, _, h5⟩ := name_ok h4 n4 (by omega)
  have n5 := get_self (c := .lst ((names ++ [x]).map .str)) n4
  have f5 := get_set (c := .lst ((names ++ [x]).map .str)) f4 (show u ≠ f by omega)
  have g5 := get_set (c := .lst ((names ++ [x]).map .str)) g4 (show u ≠ n + 4 by omega)
  obtain ⟨e, S6, fr', e6, q6, h6, l6, a6⟩ := pop_free (ρ := en2 u n t (some (.ref (f + 2))) x4 t12 t13 t14) rfl rfl h5 f5 fl fq h0
  have n6 := get_set (c := .lst (fr'.map En.d)) n5 (show f ≠ u by omega)
  have f6 := get_self (c := .lst (fr'.map En.d)) f5
  have g6 := get_set (c := .lst (fr'.map En.d)) g5 (show f ≠ n + 4 by omega)
  have d1 := append_s (Φ := T__law_checked) (o := .var 10) (a := .tup [.call 3 [.var 0, .var 1], popE]) (n := n + 4 + 2) (x := gaD (x, e)) (es := gas.map gaD) (ds := gas.map gaD) (ρ := en2 u n t (some (.ref (f + 2))) x4 t12 t13 t14) (S := S4) (S1 := S6) rfl ((dk_get h4 _).trans g4) (tup2 (call2 rfl rfl rfl e5) e6) ((dk_get h6 _).trans g6) (by
    rw [List.length_map]
    unfold line
    omega)
  rw [snoc_map] at d1
  have h7 := dk_set h6 (n + 4) (.lst ((gas ++ [(x, e)]).map gaD))
  refine ⟨_, seq ((ite_t c1).trans (seq (expr_e d1) nil_e)) nil_e, _, h7, by simp only [List.length_set]; exact J.len, ⟨names ++ [x], get_set n6 (by omega), by rw [List.length_append]; show _ + 1 ≤ _; omega⟩, ⟨fr', get_set f6 (by omega), l6, a6⟩, ⟨gas ++ [(x, e)], get_self g6, by rw [List.length_append]; show _ + 1 ≤ _; omega, fun p m => ?_⟩, fun i i1 i2 i3 => ?_⟩
  · rcases List.mem_append.mp m with m | m
    · exact gq p m
    · rw [List.mem_singleton] at m
      subst m
      exact ⟨q5, hQ e q6⟩
  · rw [List.getElem?_set_ne (Ne.symm i2), List.getElem?_set_ne (Ne.symm i3), List.getElem?_set_ne (Ne.symm i1)]
    exact J.rest i i1 i2 i3
def lb3 : List Cl.S :=
  [.ite (.cmp .ne (.var 5) (.lst false []))
    [.asg (.nm 14) popE,
    .expr (.mt .append (.var 11) [(.tup [(.call 3 [(.var 0), (.var 1)]), (.var 14), (.call 6 [(.var 0), (.var 7), (.idx (.var 8) (.var 14))])])])]
    []]
theorem get_dT {S : Store} {n : Nat} {kvs : List (List Key × D)} {b : Bool} {a b' : En} (h : S[n]? = some (.dT kvs b)) (hl : look kvs [.inr a.1, .inl a.2] = some b'.d) : getitem (.ref n) a.d S = .ok b'.d S := by
  have : dget S (.ref n) a.d = .some b'.d := by simp only [dget, h, En.d, tkeyOf, keysOf, keyOf] at hl ⊢; rw [hl]
  show (match dget S (.ref n) a.d with
    | .some d => Res.ok d S
    | _ => .stuck) = _
  rw [this]
theorem step3 {R2 R4 S4 : Store} {u n f N k : Nat} {kvs : List (Key × D)} {kvJ : List (List Key × D)} {t x4 t12 t13 t14 : Option D} (hu : u < n) (hf : n + 6 ≤ f) (hN : N ≤ 40) (hk : k < 12) (hks : R2[n]? = some (.dK kvs false)) (hj : R2[n + 2]? = some (.dT kvJ false)) (h4 : Dk R4 S4)
    (J : C2 Si.d Si.ok (fun e => e.ok ∧ ∃ b : En, look kvJ [.inr e.1, .inl e.2] = some b.d ∧ Qk kvs b) R2 R4 u (n + 5) f N k) :
    ∃ t14' S', evSs T__law_checked lb3 (en2 u n t (some (.ref (f + 2))) x4 t12 t13 t14) S4 = .ok (.nx (en2 u n t (some (.ref (f + 2))) x4 t12 t13 t14')) S' ∧ ∃ R', Dk R' S' ∧ C2 Si.d Si.ok (fun e => e.ok ∧ ∃ b : En, look kvJ [.inr e.1, .inl e.2] = some b.d ∧ Qk kvs b) R2 R' u (n + 5) f N (k + 1) := by
  obtain ⟨names, n4, nl⟩ := J.nms
  obtain ⟨free, f4, fl, fq⟩ := J.fr
  obtain ⟨gas, g4, gl, gq⟩ := J.out
  have c1 := ne_nil (Φ := T__law_checked) (a := .var 5) (ρ := en2 u n t (some (.ref (f + 2))) x4 t12 t13 t14) (S := S4) (d := .ref (f + 2)) (l := free) rfl (snap_ref ((dk_get h4 f).trans f4))
  by_cases h0 : free = []
  · subst h0
    exact ⟨t14, S4, seq ((ite_f c1).trans nil_e) nil_e, R4, h4, J.up⟩
  have hne : free.isEmpty = false := by simpa using h0
  rw [hne] at c1
  obtain ⟨e, S5, fr', e5, ⟨q5, b, lb, qb, kd, lk, ko⟩, h5, l5, a5⟩ := pop_free (ρ := en2 u n t (some (.ref (f + 2))) x4 t12 t13 t14) rfl rfl h4 f4 fl fq h0
  have n5 := get_set (c := .lst (fr'.map En.d)) n4 (show f ≠ u by omega)
  have f5 := get_self (c := .lst (fr'.map En.d)) f4
  have g5 := get_set (c := .lst (fr'.map En.d)) g4 (show f ≠ n + 5 by omega)
  have k5 := get_set (c := .lst (fr'.map En.d)) ((J.rest n (by omega) (by omega) (by omega)).trans hks) (show f ≠ n by omega)
  have j5 := get_set (c := .lst (fr'.map En.d)) ((J.rest (n + 2) (by omega) (by omega) (by omega)).trans hj) (show f ≠ n + 2 by omega)
  obtain ⟨x, S6, e6, q6, _, h6⟩ := name_ok h5 n5 (by omega)
  have n6 := get_self (c := .lst ((names ++ [x]).map .str)) n5
  have f6 := get_set (c := .lst ((names ++ [x]).map .str)) f5 (show u ≠ f by omega)
  have g6 := get_set (c := .lst ((names ++ [x]).map .str)) g5 (show u ≠ n + 5 by omega)
  have k6 := get_set (c := .lst ((names ++ [x]).map .str)) k5 (show u ≠ n by omega)
  have j6 := get_set (c := .lst ((names ++ [x]).map .str)) j5 (show u ≠ n + 2 by omega)
  obtain ⟨os, S7, e7, l7, a7, h7⟩ := over_ok h6 k6 qb lk ko
  have d1 := append_s (Φ := T__law_checked) (o := .var 11) (a := .tup [.call 3 [.var 0, .var 1], .var 14, .call 6 [.var 0, .var 7, .idx (.var 8) (.var 14)]]) (n := n + 5 + 2) (x := Si.d ⟨x, e, os⟩) (es := gas.map Si.d) (ds := gas.map Si.d) (ρ := en2 u n t (some (.ref (f + 2))) x4 t12 t13 (some e.d)) (S := S5) (S1 := S7) rfl ((dk_get h5 _).trans g5)
    (tup3 (call2 rfl rfl rfl e6) rfl (call3 rfl rfl rfl (idx_e rfl rfl (get_dT ((dk_get h6 _).trans j6) lb)) e7)) ((dk_get h7 _).trans g6) (by
    rw [List.length_map]
    unfold line
    omega)
  rw [snoc_map] at d1
  have h8 := dk_set h7 (n + 5) (.lst ((gas ++ [(⟨x, e, os⟩ : Si)]).map Si.d))
  refine ⟨_, _, seq ((ite_t c1).trans (seq (asg_e e5 rfl) (seq (expr_e d1) nil_e))) nil_e, _, h8, by simp only [List.length_set]; exact J.len, ⟨names ++ [x], get_set n6 (by omega), by rw [List.length_append]; show _ + 1 ≤ _; omega⟩, ⟨fr', get_set f6 (by omega), l5, a5⟩, ⟨gas ++ [⟨x, e, os⟩], get_self g6, by rw [List.length_append]; show _ + 1 ≤ _; omega, fun p m => ?_⟩, fun i i1 i2 i3 => ?_⟩
  · rcases List.mem_append.mp m with m | m
    · exact gq p m
    · rw [List.mem_singleton] at m
      subst m
      exact ⟨q6, q5, l7, a7⟩
  · rw [List.getElem?_set_ne (Ne.symm i2), List.getElem?_set_ne (Ne.symm i1), List.getElem?_set_ne (Ne.symm i3)]
    exact J.rest i i1 i2 i3
end K02

set_option linter.all false
set_option autoImplicit false
set_option maxRecDepth 100000
set_option maxHeartbeats 1000000
namespace K02
open PySem (Str)
open Cl

theorem new_lst {Φ : Tab} {ρ : Env} {S : Store} {m : Nat} (h : S.length = m) : evE Φ (.lst true []) ρ S = .ok (.ref m) (S ++ [.lst []]) := by
  subst h
  rfl
theorem new_dic {Φ : Tab} {ρ : Env} {S : Store} {m : Nat} (h : S.length = m) : evE Φ (.dic true []) ρ S = .ok (.ref m) (S ++ [.dK [] false]) := by
  subst h
  rfl
theorem new_dT {Φ : Tab} {ρ : Env} {S : Store} {m : Nat} (h : S.length = m) : evE Φ .dict0 ρ S = .ok (.ref m) (S ++ [.dT [] false]) := by
  subst h
  rfl
theorem at_app (R l : Store) (i : Nat) : (R ++ l)[R.length + i]? = l[i]? := by
  rw [List.getElem?_append_right (by omega)]
  congr 1
  omega
theorem at_left {R l : Store} {i : Nat} (h : i < R.length) : (R ++ l)[i]? = R[i]? := List.getElem?_append_left h
theorem at_leftS {R l : Store} {i : Nat} {c : Cell} (h : R[i]? = some c) : (R ++ l)[i]? = some c := by
  rw [List.getElem?_append_left (List.getElem?_eq_some_iff.mp h).1]
  exact h
theorem lt_of {R : Store} {i : Nat} {c : Cell} (h : R[i]? = some c) : i < R.length := (List.getElem?_eq_some_iff.mp h).1
theorem lcd_filter {Φ : Tab} {nw : Bool} {el cnd : E} {t : Tg} {i n : Nat} {own : List Nat} {ρ : Env} {S : Store} {c c' : Cell} {as : List En} (p : En → Bool) (h0 : ρ[i]? = some (some (.ref n))) (h1 : S[n]? = some c) (h2 : dkeys c = some (as.map En.d, c'))
    (h3 : ∀ x ∈ as, ∃ ρ2, asgT t x.d (wipe ρ own) = some ρ2 ∧ evE Φ cnd ρ2 (S.set n c') = .ok (.bl (p x)) (S.set n c') ∧ evE Φ el ρ2 (S.set n c') = .ok x.d (S.set n c')) : evE Φ (.lcd nw el t i (some cnd) own) ρ S = mk nw ((as.filter p).map En.d) S := by
  have hn := lt_of h1
  simp only [evE, h0, h1, h2]
  rw [lcL_filterA p En.d En.d (S := S.set n c'), Res.nox_ok, Res.bind_ok]
  · congr 1
    rw [List.set_set]
    apply List.ext_getElem?
    intro k
    by_cases hk : n = k
    · subst hk
      rw [List.getElem?_set_self hn, h1]
    · rw [List.getElem?_set_ne hk]
  · show (S.set n c')[n]? = some c'
    exact List.getElem?_set_self hn
  · intro d hd
    obtain ⟨ρ2, e1, e2, e3⟩ := h3 d hd
    simp only [e1, evIf, e2, Res.bind_ok, toB]
    cases p d with
    | false => simp
    | true => simp [e3]
theorem isPl_e {Φ : Tab} {ρ : Env} {R S : Store} {n : Nat} {kvs : List (Key × D)} {e : En} (h7 : ρ[7]? = some (some (.ref (n + 2)))) (h14 : ρ[14]? = some (some e.d)) (hS : Dk R S) (hk : R[n]? = some (.dK kvs false)) (hq : Qk kvs e) :
    evE Φ (.cmp .eq (.idx (.var 7) (.idx (.var 14) (.lit (.int 0)))) (.lit (.str "plain"))) ρ S = .ok (.bl (isPl kvs e)) S := by
  obtain ⟨_, kd, lk, _⟩ := hq
  have a : evE Φ (.var 14) ρ S = .ok e.d S := by simp only [evE, h14]
  have b : evE Φ (.var 7) ρ S = .ok (.ref (n + 2)) S := by simp only [evE, h7]
  have z := eq_str (Φ := Φ) (ρ := ρ) (a := .idx (.var 7) (.idx (.var 14) (.lit (.int 0)))) (b := .lit (.str "plain")) (S := S) (S1 := S) (S2 := S) (x := kd) (y := "plain") (idx_e b (idx_e (y := .int 0) a rfl rfl) (dget_kinds hS hk e.1 lk)) rfl
  rw [z]
  simp only [isPl, lk]
theorem checked_ok {R S : Store} {u : Nat} {names : List Str} (hS : Dk R S) (hu : R[u]? = some (.lst (names.map .str))) (hN : names.length ≤ 20) :
    ∃ (p : Plan) (R' S' : Store), p.ok ∧ F__law_checked [.ref 1, .ref (u + 2), .int 12] S = .ok p.d S' ∧ Dk R' S' ∧ R'.length = R.length := by
  have hlen := dk_len hS
  have hul := lt_of hu
  have t1 : evS T__law_checked (.asg (.tp [(.nm 6), (.nm 7), (.nm 5), (.nm 8)]) (.tup [(.dic false [(.lit (.str "plain")), (.lit (.int 2)), (.lit (.str "points")), (.lit (.int 3)), (.lit (.str "crossing")), (.lit (.int 4))]), (.dic true []), (.lst true []), .dict0]))
      [some (.ref 1), some (.ref (u + 2)), some (.int 12), none, none, none, none, none, none, none, none, none, none, none, none] S = .ok (.nx [some (.ref 1), some (.ref (u + 2)), some (.int 12), none, none, some (.ref (R.length + 1 + 2)), some manyD, some (.ref (R.length + 2)), some (.ref (R.length + 2 + 2)), none, none, none, none, none, none]) (S ++ [.dK [] false] ++ [.lst []] ++ [.dT [] false]) :=
    asg_e (tup4 (x := manyD) rfl (new_dic hlen) (new_lst (by simp [hlen])) (new_dT (by simp [hlen]))) rfl
  have t2 : evS T__law_checked (.asg (.tp [(.nm 9), (.nm 10), (.nm 11)]) (.tup [(.lst true []), (.lst true []), (.lst true [])]))
      [some (.ref 1), some (.ref (u + 2)), some (.int 12), none, none, some (.ref (R.length + 1 + 2)), some manyD, some (.ref (R.length + 2)), some (.ref (R.length + 2 + 2)), none, none, none, none, none, none] (S ++ [.dK [] false] ++ [.lst []] ++ [.dT [] false]) =
      .ok (.nx (en1 u R.length none (some (.ref (R.length + 1 + 2))) none none none)) (S ++ [.dK [] false] ++ [.lst []] ++ [.dT [] false] ++ [.lst []] ++ [.lst []] ++ [.lst []]) :=
    asg_e (tup3 (new_lst (m := R.length + 3 + 2) (by simp [hlen])) (new_lst (m := R.length + 4 + 2) (by simp [hlen])) (new_lst (m := R.length + 5 + 2) (by simp [hlen]))) rfl
  have h1 : Dk (R ++ [.dK [] false, .lst [], .dT [] false, .lst [], .lst [], .lst []]) (S ++ [.dK [] false] ++ [.lst []] ++ [.dT [] false] ++ [.lst []] ++ [.lst []] ++ [.lst []]) := by
    have := dk_app hS [.dK [] false, .lst [], .dT [] false, .lst [], .lst [], .lst []]
    simpa using this
  generalize hR1 : R ++ [.dK [] false, .lst [], .dT [] false, .lst [], .lst [], .lst []] = R1 at h1
  have at1 : ∀ i, R1[R.length + i]? = [Cell.dK [] false, .lst [], .dT [] false, .lst [], .lst [], .lst []][i]? := fun i => by
    rw [← hR1]
    exact at_app ..
  have l1 : R1.length = R.length + 6 := by rw [← hR1]; simp
  have lo1 : ∀ i, i < R.length → R1[i]? = R[i]? := fun i hi => by
    rw [← hR1]
    exact at_left hi
  generalize S ++ [.dK [] false] ++ [.lst []] ++ [.dT [] false] ++ [.lst []] ++ [.lst []] ++ [.lst []] = Sx at h1 t2
  obtain ⟨n1, S2, e2, h2, n10, n11⟩ := draw_ok h1 (many := 12 + 1) (by omega) (by omega)
  have c0 : evE T__law_checked (.call 1 [.var 0, .bin .add false (.var 2) (.lit (.int 1))]) (en1 u R.length none (some (.ref (R.length + 1 + 2))) none none none) Sx = .ok (.int n1) S2 :=
    call2 (x := .ref 1) (y := .int (12 + 1)) (S1 := Sx) (S2 := Sx) rfl rfl (add_i (i := 12) (j := 1) (S1 := Sx) rfl rfl) e2
  obtain ⟨ρ3, S3, e3, t, t12, t13, m, kvs, R3, rfl, h3, J3⟩ := for_rng (Φ := T__law_checked) (i := 3) (a := .call 1 [.var 0, .bin .add false (.var 2) (.lit (.int 1))]) (body := lb1) (n := n1) (ρ := en1 u R.length none (some (.ref (R.length + 1 + 2))) none none none)
    (S := Sx)
    (fun k ρ S' => ∃ t t12 t13 m kvs R', ρ = en1 u R.length t (some (.ref (m + 2))) none t12 t13 ∧ Dk R' S' ∧ C1 R1 R' u R.length names.length k m kvs)
    c0 n10 (by omega) ⟨_, _, _, R.length + 1, [], R1, rfl, h2, by omega, .inl rfl, ⟨names, (lo1 u hul).trans hu, rfl, [], at1 1, by simp, fun _ m => nomatch m⟩, at1 0, by simp, ⟨[], at1 3, by simp, fun _ m => nomatch m⟩, fun _ _ _ _ _ => rfl⟩ (by
      rintro k ρ S4 hk ⟨t, t12, t13, m, kvs, R', rfl, h4, J⟩
      obtain ⟨ρ', S', e, t12', t13', R'', m', kvs', rfl, h5, J5⟩ := step1 (t4 := none) (t12 := t12) (t13 := t13) hul hN (by omega) h4 J
      exact ⟨_, S', e, _, _, _, _, _, _, rfl, h5, J5⟩)
  obtain ⟨names3, nm3, nl3, free, f3, fl3, fq3⟩ := J3.nms
  obtain ⟨sts, s3, sl3, sq3⟩ := J3.sts
  have l3 := J3.len
  have m3 := J3.mm
  have r3 : ∀ i, i ≠ u → i ≠ R.length → i ≠ R.length + 3 → i < R.length + 6 → R3[i]? = R1[i]? := J3.rest
  obtain ⟨R5, S5, e5, h5, J5⟩ := joints_ok (f := m) (j := R.length + 2) (Q := Qk kvs) h3 f3 ((r3 _ (by omega) (by omega) (by omega) (by omega)).trans (at1 2)) (by omega) (by omega) (fun e m => (fq3 e m).1) (fun e h => h.1)
  have l5 := J5.len
  obtain ⟨fr5, f5, fl5, fq5⟩ := J5.fr
  obtain ⟨kvJ, j5, kl5, jk5⟩ := J5.jd
  obtain ⟨jos, o5, ol5, oq5⟩ := J5.jo
  have k5 : R5[R.length]? = some (.dK kvs false) := (J5.rest _ (by omega) (by omega) (by omega)).trans J3.ks
  -- the free plain ends
  have c6 := lc_filter (Φ := T__law_checked) (nw := true) (el := .var 14) (it := .walk (.var 5)) (t := .nm 14) (own := [14]) (c := .cmp .eq (.idx (.var 7) (.idx (.var 14) (.lit (.int 0)))) (.lit (.str "plain"))) (ρ := en2 u R.length t (some (.ref (m + 2))) (some (.ref (R3.length + 2))) t12 t13 none) (S := S5)
    (isPl kvs) En.d En.d (walk_ref rfl ((dk_get h5 m).trans f5)) ((dk_get h5 m).trans f5) fun e me => ⟨_, rfl, isPl_e rfl rfl h5 k5 (fq5 e me), rfl⟩
  have hl5 := dk_len h5
  have c6' : evE T__law_checked (.lc true (.var 14) (.nm 14) (.walk (.var 5)) (some (.cmp .eq (.idx (.var 7) (.idx (.var 14) (.lit (.int 0)))) (.lit (.str "plain")))) [14]) (en2 u R.length t (some (.ref (m + 2))) (some (.ref (R3.length + 2))) t12 t13 none) S5 = .ok (.ref (R5.length + 2)) (S5 ++ [.lst ((fr5.filter (isPl kvs)).map En.d)]) := by
    rw [← hl5]
    exact c6
  have h6 := dk_app h5 [.lst ((fr5.filter (isPl kvs)).map En.d)]
  generalize S5 ++ [.lst ((fr5.filter (isPl kvs)).map En.d)] = S6 at h6 c6'
  obtain ⟨n7, S7, e7, h7, n70, n71⟩ := draw_ok h6 (many := 5) (by omega) (by omega)
  have c7 : evE T__law_checked (.call 1 [.var 0, .lit (.int 5)]) (en2 u R.length t (some (.ref (R5.length + 2))) (some (.ref (R3.length + 2))) t12 t13 none) S6 = .ok (.int n7) S7 :=
    call2 (x := .ref 1) (y := .int 5) (S1 := S6) (S2 := S6) rfl rfl rfl e7
  -- up to the gates nothing else was touched
  have r5 : ∀ i, i ≠ m → i ≠ R.length + 2 → i < R3.length → (R5 ++ [Cell.lst ((fr5.filter (isPl kvs)).map En.d)])[i]? = R3[i]? := fun i i1 i2 i3 => by
    rw [at_left (by omega)]
    exact J5.rest i i1 i2 i3
  generalize hR6 : R5 ++ [Cell.lst ((fr5.filter (isPl kvs)).map En.d)] = R6 at h6 h7 r5
  have l6 : R6.length = R5.length + 1 := by rw [← hR6]; simp
  have f6 : R6[R5.length]? = some (.lst ((fr5.filter (isPl kvs)).map En.d)) := by rw [← hR6]; exact s_last
  obtain ⟨ρ8, S8, e8, t8, R8, rfl, h8, J8⟩ := for_rng (Φ := T__law_checked) (i := 3) (a := .call 1 [.var 0, .lit (.int 5)]) (body := lb2) (n := n7) (ρ := en2 u R.length t (some (.ref (R5.length + 2))) (some (.ref (R3.length + 2))) t12 t13 none) (S := S6)
    (fun k ρ S' => ∃ t R', ρ = en2 u R.length t (some (.ref (R5.length + 2))) (some (.ref (R3.length + 2))) t12 t13 none ∧ Dk R' S' ∧ C2 gaD gaOk (Qk kvs) R6 R' u (R.length + 4) R5.length (names.length + 12) k)
    c7 n70 (by omega) ⟨_, R6, rfl, h7, rfl, ⟨names3, (r5 u (by omega) (by omega) (by omega)).trans nm3, by omega⟩, ⟨_, f6, Nat.le_trans (List.length_filter_le ..) fl5, fun e m => fq5 e (List.mem_filter.mp m).1⟩, ⟨[], (r5 (R.length + 4) (by omega) (by omega) (by omega)).trans ((r3 _ (by omega) (by omega) (by omega) (by omega)).trans (at1 4)), by simp, fun _ m => nomatch m⟩, fun _ _ _ _ => rfl⟩ (by
      rintro k ρ S4 hk ⟨t, R', rfl, h4, J⟩
      obtain ⟨S', e, R'', h5, J5⟩ := step2 (t := some (.int k)) (x4 := some (.ref (R3.length + 2))) (t12 := t12) (t13 := t13) (t14 := none) (fun e h => h.1) hul (by omega) (by omega) (by omega) h4 J
      exact ⟨_, S', e, _, _, rfl, h5, J5⟩)
  have l8 := J8.len
  have r8 := J8.rest
  obtain ⟨gas, g8, gl8, gq8⟩ := J8.out
  obtain ⟨names8, nm8, nl8⟩ := J8.nms
  have k8 : R8[R.length]? = some (.dK kvs false) := (r8 _ (by omega) (by omega) (by omega)).trans ((by rw [← hR6]; exact at_left (by omega) : R6[R.length]? = R5[R.length]?).trans k5)
  have j8 : R8[R.length + 2]? = some (.dT kvJ false) := (r8 _ (by omega) (by omega) (by omega)).trans ((by rw [← hR6]; exact at_left (by omega) : R6[R.length + 2]? = R5[R.length + 2]?).trans j5)
  obtain ⟨as, ea, qa, la, ma⟩ := jk_keys jk5
  have h8s := dk_set h8 (R.length + 2) (.dT kvJ true)
  have hl8 := dk_len h8
  have c9 := lcd_filter (Φ := T__law_checked) (nw := true) (el := .var 14) (t := .nm 14) (i := 8) (own := [14]) (cnd := .cmp .eq (.idx (.var 7) (.idx (.var 14) (.lit (.int 0)))) (.lit (.str "plain"))) (ρ := en2 u R.length t8 (some (.ref (R5.length + 2))) (some (.ref (R3.length + 2))) t12 t13 none) (S := S8) (n := R.length + 2 + 2) (c := .dT kvJ false) (c' := .dT kvJ true) (as := as)
    (isPl kvs) rfl ((dk_get h8 _).trans j8) (by show some (_, _) = _; rw [← ea]) fun e me => ⟨_, rfl, isPl_e rfl rfl h8s (get_set k8 (by omega)) (qa e me), rfl⟩
  have c9' : evE T__law_checked (.lcd true (.var 14) (.nm 14) 8 (some (.cmp .eq (.idx (.var 7) (.idx (.var 14) (.lit (.int 0)))) (.lit (.str "plain")))) [14]) (en2 u R.length t8 (some (.ref (R5.length + 2))) (some (.ref (R3.length + 2))) t12 t13 none) S8 = .ok (.ref (R8.length + 2)) (S8 ++ [.lst ((as.filter (isPl kvs)).map En.d)]) := by
    rw [← hl8]
    exact c9
  have h9 := dk_app h8 [.lst ((as.filter (isPl kvs)).map En.d)]
  generalize S8 ++ [.lst ((as.filter (isPl kvs)).map En.d)] = S9 at h9 c9'
  obtain ⟨n10', S10, e10, h10, n100, n101⟩ := draw_ok h9 (many := 11) (by omega) (by omega)
  have c10 : evE T__law_checked (.call 1 [.var 0, .lit (.int 11)]) (en2 u R.length t8 (some (.ref (R8.length + 2))) (some (.ref (R3.length + 2))) t12 t13 none) S9 = .ok (.int n10') S10 :=
    call2 (x := .ref 1) (y := .int 11) (S1 := S9) (S2 := S9) rfl rfl rfl e10
  have r9 : ∀ i, i < R8.length → (R8 ++ [Cell.lst ((as.filter (isPl kvs)).map En.d)])[i]? = R8[i]? := fun i hi => at_left hi
  generalize hR9 : R8 ++ [Cell.lst ((as.filter (isPl kvs)).map En.d)] = R9 at h9 h10 r9
  have l9 : R9.length = R8.length + 1 := by rw [← hR9]; simp
  have f9 : R9[R8.length]? = some (.lst ((as.filter (isPl kvs)).map En.d)) := by rw [← hR9]; exact s_last
  obtain ⟨ρ11, S11, e11, t11, t11', R11, rfl, h11, J11⟩ := for_rng (Φ := T__law_checked) (i := 3) (a := .call 1 [.var 0, .lit (.int 11)]) (body := lb3) (n := n10') (ρ := en2 u R.length t8 (some (.ref (R8.length + 2))) (some (.ref (R3.length + 2))) t12 t13 none) (S := S9)
    (fun k ρ S' => ∃ t t' R', ρ = en2 u R.length t (some (.ref (R8.length + 2))) (some (.ref (R3.length + 2))) t12 t13 t' ∧ Dk R' S' ∧ C2 Si.d Si.ok (fun e => e.ok ∧ ∃ b : En, look kvJ [.inr e.1, .inl e.2] = some b.d ∧ Qk kvs b) R9 R' u (R.length + 5) R8.length (names.length + 17) k)
    c10 n100 (by omega) ⟨_, _, R9, rfl, h10, rfl, ⟨names8, (r9 u (by omega)).trans nm8, by omega⟩, ⟨_, f9, Nat.le_trans (List.length_filter_le ..) (by omega), fun e m => by
      have m2 := (List.mem_filter.mp m).1
      obtain ⟨d, md⟩ := ma e m2
      exact ⟨(qa e m2).1, jk_look jk5 md⟩⟩, ⟨[], (r9 (R.length + 5) (by omega)).trans ((r8 _ (by omega) (by omega) (by omega)).trans ((r5 (R.length + 5) (by omega) (by omega) (by omega)).trans ((r3 _ (by omega) (by omega) (by omega) (by omega)).trans (at1 5)))), by simp, fun _ m => nomatch m⟩, fun _ _ _ _ => rfl⟩ (by
      rintro k ρ S4 hk ⟨t, t', R', rfl, h4, J⟩
      obtain ⟨t14, S', e, R'', h5, J5⟩ := step3 (t := some (.int k)) (x4 := some (.ref (R3.length + 2))) (t12 := t12) (t13 := t13) (t14 := t') hul (by omega) (by omega) (by omega) ((r9 _ (by omega)).trans k8) ((r9 _ (by omega)).trans j8) h4 J
      exact ⟨_, S', e, _, _, _, rfl, h5, J5⟩)
  have l11 := J11.len
  have r11 := J11.rest
  obtain ⟨si, s11, sl11, sq11⟩ := J11.out
  obtain ⟨names11, nm11, nl11⟩ := J11.nms
  have hp : (⟨sts, jos, gas, si⟩ : Plan).ok := ⟨sq3, oq5, gq8, sq11, by show sts.length ≤ 1000; omega, by show jos.length ≤ 1000; omega, by show gas.length ≤ 1000; omega, by show si.length ≤ 1000; omega⟩
  have st11 : R11[R.length + 3]? = some (.lst (sts.map stD)) := (r11 _ (by omega) (by omega) (by omega)).trans ((r9 _ (by omega)).trans ((r8 _ (by omega) (by omega) (by omega)).trans ((r5 _ (by omega) (by omega) (by omega)).trans s3)))
  have o6 : R6[R3.length]? = some (.lst (jos.map joD)) := by
    rw [← hR6]
    exact at_leftS o5
  have jo11 : R11[R3.length]? = some (.lst (jos.map joD)) := (r11 _ (by omega) (by omega) (by omega)).trans ((r9 _ (by omega)).trans ((r8 _ (by omega) (by omega) (by omega)).trans o6))
  have ga11 : R11[R.length + 4]? = some (.lst (gas.map gaD)) := (r11 _ (by omega) (by omega) (by omega)).trans ((r9 _ (by omega)).trans g8)
  have low : ∀ i, i ≠ u → i < R.length → R11[i]? = R[i]? := fun i i1 i2 => (r11 _ i1 (by omega) (by omega)).trans ((r9 _ (by omega)).trans ((r8 _ i1 (by omega) (by omega)).trans ((r5 _ (by omega) (by omega) (by omega)).trans ((r3 _ i1 (by omega) (by omega) (by omega)).trans (lo1 i i2)))))
  have last : evSs T__law_checked [.ret (.tup [(.bi .tuple false [(.var 9)]), (.bi .tuple false [(.var 4)]), (.bi .tuple false [(.var 10)]), (.bi .tuple false [(.var 11)])])] (en2 u R.length t11 (some (.ref (R8.length + 2))) (some (.ref (R3.length + 2))) t12 t13 t11') S11 = .ok (.rt (⟨sts, jos, gas, si⟩ : Plan).d) S11 :=
    ret_e (tup4 (tuple_ref (n := R.length + 3 + 2) rfl ((dk_get h11 _).trans st11)) (tuple_ref (n := R3.length + 2) rfl ((dk_get h11 _).trans jo11)) (tuple_ref (n := R.length + 4 + 2) rfl ((dk_get h11 _).trans ga11)) (tuple_ref (n := R.length + 5 + 2) rfl ((dk_get h11 _).trans s11)))
  have cj : evS T__law_checked (.asg (.nm 4) (.call 4 [.var 0, .var 5, .var 8])) (en1 u R.length t (some (.ref (m + 2))) none t12 t13) S3 = .ok (.nx (en2 u R.length t (some (.ref (m + 2))) (some (.ref (R3.length + 2))) t12 t13 none)) S5 :=
    asg_e (call3 (x := .ref 1) (y := .ref (m + 2)) (z := .ref (R.length + 2 + 2)) (S1 := S3) (S2 := S3) (S3 := S3) rfl rfl rfl rfl e5) rfl
  have cf : evS T__law_checked (.asg (.nm 5) (.lc true (.var 14) (.nm 14) (.walk (.var 5)) (some (.cmp .eq (.idx (.var 7) (.idx (.var 14) (.lit (.int 0)))) (.lit (.str "plain")))) [14])) (en2 u R.length t (some (.ref (m + 2))) (some (.ref (R3.length + 2))) t12 t13 none) S5 = .ok (.nx (en2 u R.length t (some (.ref (R5.length + 2))) (some (.ref (R3.length + 2))) t12 t13 none)) S6 := asg_e c6' rfl
  have cg : evS T__law_checked (.asg (.nm 5) (.lcd true (.var 14) (.nm 14) 8 (some (.cmp .eq (.idx (.var 7) (.idx (.var 14) (.lit (.int 0)))) (.lit (.str "plain")))) [14])) (en2 u R.length t8 (some (.ref (R5.length + 2))) (some (.ref (R3.length + 2))) t12 t13 none) S8 = .ok (.nx (en2 u R.length t8 (some (.ref (R8.length + 2))) (some (.ref (R3.length + 2))) t12 t13 none)) S9 := asg_e c9' rfl
  have all := seq t1 (seq t2 (seq e3 (seq cj (seq cf (seq e8 (seq cg (seq e11 last)))))))
  have hc : R11.take R.length ++ R11.drop R.length = R11 := List.take_append_drop ..
  have hl11 : R.length ≤ R11.length := by omega
  obtain ⟨S12, e12, h12⟩ := dk_fn (Φ := T__law_checked) (b := b__law_checked) (n := 15) (ds := [.ref 1, .ref (u + 2), .int 12]) (d := (⟨sts, jos, gas, si⟩ : Plan).d) (R' := R11.take R.length) (l := R11.drop R.length) (S1 := S11) hS all (by rw [hc]; exact h11) (by rw [List.length_take]; omega) (flat_bnd _ (plan_flat _)) fun i hi => by
    rw [List.getElem?_take_of_lt hi]
    by_cases hiu : i = u
    · subst hiu
      exact .inr ⟨_, nm11, flats_bnd _ (flats_map (fun _ => rfl) names11)⟩
    · exact .inl (low i hiu hi)
  exact ⟨_, _, S12, hp, e12, h12, by rw [List.length_take]; omega⟩
end K02

set_option linter.all false
set_option autoImplicit false
set_option maxRecDepth 100000
set_option maxHeartbeats 1000000
namespace K02
open PySem (Str)
open Cl

theorem cut_all {α : Type} (l : List α) (h : l.length ≤ 63) : cut l none (some 63) = l := by
  unfold cut sIx
  have : min (63 : Int).toNat l.length = l.length := by
    show min 63 l.length = _
    omega
  simp only [show ¬ (63 : Int) < 0 by decide, if_false, this, Nat.sub_zero, List.drop_zero, List.take_length]
theorem sl_e {Φ : Tab} {ρ : Env} {S : Store} {is : List Int} (h0 : ρ[0]? = some (some (.scr (is.map .int)))) (h : is.length ≤ 63) : evE Φ (.sl false (.var 0) none (some (.lit (.int 63)))) ρ S = .ok (.lst (is.map .int)) S := by
  have z : slice false (.scr (is.map .int)) none (some 63) S = .ok (.lst (is.map .int)) S := by
    show mk false (cut (is.map .int) none (some 63)) S = _
    rw [cut_all _ (by rw [List.length_map]; exact h)]
    rfl
  simp only [evE, evO, h0, Res.bind_ok, toI]
  exact z
theorem es_cons {Φ : Tab} {ρ : Env} {S S1 S2 : Store} {a : E} {as : List E} {x : D} {xs : List D} (h : evE Φ a ρ S = .ok x S1) (h2 : evEs Φ as ρ S1 = .ok xs S2) : evEs Φ (a :: as) ρ S = .ok (x :: xs) S2 := by
  simp only [evEs, h, h2, Res.bind_ok]
theorem list_e {Φ : Tab} {ρ : Env} {S S1 : Store} {a : E} {ds : List D} (h : evE Φ a ρ S = .ok (.lst ds) S1) : evE Φ (.bi .list false [a]) ρ S = .ok (.lst ds) S1 := by
  simp only [evE, evEs, h, Res.bind_ok]
  rfl
theorem rev_e {Φ : Tab} {ρ : Env} {S S1 : Store} {a : E} {ds : List D} (h : evE Φ a ρ S = .ok (.lst ds) S1) : evE Φ (.rev true a) ρ S = .ok (.ref S1.length) (S1 ++ [.lst ds.reverse]) := by
  simp only [evE, h, Res.bind_ok]
  rfl
theorem deck_ok (is : List Int) (h : is.length ≤ 63) : ∃ S', F__law_deck [.scr (is.map .int)] [] = .ok (.ref 1) S' ∧ Dk [] S' := by
  obtain ⟨ρ', S', e2, m, t, rfl, rfl⟩ := forL_map (J := ⟨is.map .int, none⟩) D.int is
    (f := fun d ρ1 S2 => match asgT (.nm 2) d ρ1 with
      | none => .stuck
      | some ρ2 => evSs T__law_deck [.asg (.nm 1) (.bin .mod false (.bi .int false [(.bin .add false (.bin .add false (.bin .mul false (.var 1) (.lit (.int 48271))) (.bin .mod false (.bi .int false [(.var 2)]) (.lit (.int 2147483629)))) (.lit (.int 67)))]) (.lit (.int 2147483587)))] ρ2 S2)
    (fun done ρ S => ∃ (m : Int) (t : Option D), ρ = [some (.scr (is.map .int)), some (.int m), t] ∧ S = [])
    (fun _ _ _ _ => trivial) (xs := is) (done := []) (ρ := [some (.scr (is.map .int)), some (.int 13747202), none]) (S := []) rfl ⟨_, _, rfl, rfl⟩ (by
      rintro done x rest ρ S _ ⟨m, t, rfl, rfl⟩
      exact ⟨_, _, seq (asg_e (mod_i (int_i (add_i (add_i (mul_i rfl rfl (.inr (by decide))) (mod_i (int_i rfl) rfl (by decide))) rfl)) rfl (by decide)) rfl) nil_e, _, _, rfl, rfl⟩)
  have c1 : evIt T__law_deck (.walk (.sl false (.var 0) none (some (.lit (.int 63))))) [some (.scr (is.map .int)), some (.int 13747202), none] [] = .ok ⟨is.map .int, none⟩ [] := by
    simp only [evIt]
    rw [sl_e rfl h]
    rfl
  have c2 : evE T__law_deck (.rev true (.bi .list false [(.sl false (.var 0) none (some (.lit (.int 63))))])) [some (.scr (is.map .int)), some (.int m), t] [] = .ok (.ref 0) [.lst (is.reverse.map .int)] := by
    rw [List.map_reverse]
    exact rev_e (list_e (sl_e rfl h))
  have c3 : evSs T__law_deck [.ret (.dic true [(.lit (.str "cells")), (.rev true (.bi .list false [(.sl false (.var 0) none (some (.lit (.int 63))))])), (.lit (.str "mixed")), (.var 1), (.lit (.str "draws")), (.lit (.int 0))])] [some (.scr (is.map .int)), some (.int m), t] [] = .ok (.rt (.ref 1)) (dk is.reverse m 0 []) := by
    refine ret_e ?_
    have z : evEs T__law_deck [(.lit (.str "cells")), (.rev true (.bi .list false [(.sl false (.var 0) none (some (.lit (.int 63))))])), (.lit (.str "mixed")), (.var 1), (.lit (.str "draws")), (.lit (.int 0))] [some (.scr (is.map .int)), some (.int m), t] [] = .ok [.str "cells", .ref 0, .str "mixed", .int m, .str "draws", .int 0] [.lst (is.reverse.map .int)] := by
      exact es_cons rfl (es_cons c2 rfl)
    simp only [evE]
    rw [z]
    rfl
  refine ⟨_, fn_keep (seq (asg_e rfl rfl) (seq (for_e c1 e2) c3)) (by show ¬ (1 < 0); omega), is.reverse, m, 0, by rw [List.length_reverse]; exact h, rfl⟩
theorem lcL4 {J : Itr} {f : D → Store → Res (Option D)} {d1 d2 d3 d4 y1 y2 y3 y4 : D} {S S1 S2 S3 S4 : Store} (hJ : ∀ S, J.st S) (e1 : f d1 S = .ok (some y1) S1) (e2 : f d2 S1 = .ok (some y2) S2) (e3 : f d3 S2 = .ok (some y3) S3) (e4 : f d4 S3 = .ok (some y4) S4) :
    lcL J f [d1, d2, d3, d4] S = .ok [y1, y2, y3, y4] S4 := by
  simp only [lcL, if_pos (hJ _), e1, e2, e3, e4, Res.bind_ok]
  rfl
end K02

set_option linter.all false
set_option autoImplicit false
set_option maxRecDepth 100000
set_option maxHeartbeats 1000000
namespace K02
open PySem (Str)
open Cl

theorem lc4 {Φ : Tab} {el it : E} {t : Tg} {own : List Nat} {ρ ρ1 ρ2 ρ3 ρ4 : Env} {S0 S S1 S2 S3 S4 : Store} {d1 d2 d3 d4 y1 y2 y3 y4 : D} (w : evIt Φ it ρ S0 = .ok ⟨[d1, d2, d3, d4], none⟩ S) (a1 : asgT t d1 (wipe ρ own) = some ρ1) (a2 : asgT t d2 (wipe ρ own) = some ρ2) (a3 : asgT t d3 (wipe ρ own) = some ρ3) (a4 : asgT t d4 (wipe ρ own) = some ρ4)
    (e1 : evE Φ el ρ1 S = .ok y1 S1) (e2 : evE Φ el ρ2 S1 = .ok y2 S2) (e3 : evE Φ el ρ3 S2 = .ok y3 S3) (e4 : evE Φ el ρ4 S3 = .ok y4 S4) : evE Φ (.lc false el t it none own) ρ S0 = .ok (.lst [y1, y2, y3, y4]) S4 := by
  have hJ : ∀ S, (⟨[d1, d2, d3, d4], none⟩ : Itr).st S := fun _ => trivial
  simp only [evE]
  rw [w, Res.bind_ok, lcL4 (y1 := y1) (y2 := y2) (y3 := y3) (y4 := y4) (S1 := S1) (S2 := S2) (S3 := S3) (S4 := S4) hJ (by simp only [a1, evIf, Res.bind_ok, if_true, e1]) (by simp only [a2, evIf, Res.bind_ok, if_true, e2]) (by simp only [a3, evIf, Res.bind_ok, if_true, e3]) (by simp only [a4, evIf, Res.bind_ok, if_true, e4])]
  rfl
def empty : Plan := ⟨[], [], [], []⟩
theorem empty_ok : empty.ok := ⟨(fun _ m => nomatch m), (fun _ m => nomatch m), (fun _ m => nomatch m), (fun _ m => nomatch m), by decide, by decide, by decide, by decide⟩
theorem part_ok {p : Plan} (h : p.ok) {st jo ga si} (h1 : ∀ x ∈ st, x ∈ p.st) (h2 : ∀ x ∈ jo, x ∈ p.jo) (h3 : ∀ x ∈ ga, x ∈ p.ga) (h4 : ∀ x ∈ si, x ∈ p.si) (l1 : st.length ≤ p.st.length) (l2 : jo.length ≤ p.jo.length) (l3 : ga.length ≤ p.ga.length) (l4 : si.length ≤ p.si.length) : (⟨st, jo, ga, si⟩ : Plan).ok :=
  ⟨fun x m => h.st x (h1 x m), fun x m => h.jo x (h2 x m), fun x m => h.ga x (h3 x m), fun x m => h.si x (h4 x m), Nat.le_trans l1 h.st_n, Nat.le_trans l2 h.jo_n, Nat.le_trans l3 h.ga_n, Nat.le_trans l4 h.si_n⟩
def wr (i : Nat) : Cl.S := .ite (.not_ (.call 4 [.var i])) [.ret (.lit (.bl false))] []
theorem wr_ok {ρ : Env} {S : Store} {i : Nat} {p : Plan} (h : ρ[i]? = some (some p.d)) (hp : p.ok) : evS T_law (wr i) ρ S = .ok (.nx ρ) S := by
  have v : evE T_law (.var i) ρ S = .ok p.d S := by simp only [evE, h]
  exact (ite_f (not_t (call1 (x := p.d) (S1 := S) rfl v (is_written_ok hp S)))).trans nil_e
theorem not_w {ρ : Env} {S : Store} {i : Nat} {p : Plan} (h : ρ[i]? = some (some p.d)) (hp : p.ok) : evE T_law (.not_ (.call 4 [.var i])) ρ S = .ok (.bl false) S := by
  have v : evE T_law (.var i) ρ S = .ok p.d S := by simp only [evE, h]
  exact not_t (call1 (x := p.d) (S1 := S) rfl v (is_written_ok hp S))
def envL (is : List Int) (t2 t3 t4 t5 t6 t7 : Option D) : Env := [some (.scr (is.map .int)), some (.ref 1), t2, t3, t4, t5, t6, t7, none, none]
def shufE : E := .lc false (.call 7 [.var 1, .var 8]) (.nm 8) (.walk (.var 2)) none [8]
theorem shuf_ok {R S : Store} {is : List Int} {p : Plan} (hp : p.ok) (hS : Dk R S) (t3 t4 t5 t6 t7 : Option D) : ∃ (q : Plan) (S' : Store), q.ok ∧ evE T_law (.bi .tuple false [shufE]) (envL is (some p.d) t3 t4 t5 t6 t7) S = .ok q.d S' ∧ Dk R S' := by
  obtain ⟨st, S1, e1, m1, l1, h1⟩ := shuffled_ok (g := stD) (fun _ => rfl) hS p.st hp.st_n
  obtain ⟨jo, S2, e2, m2, l2, h2⟩ := shuffled_ok (g := joD) (fun _ => rfl) h1 p.jo hp.jo_n
  obtain ⟨ga, S3, e3, m3, l3, h3⟩ := shuffled_ok (g := gaD) (fun _ => rfl) h2 p.ga hp.ga_n
  obtain ⟨si, S4, e4, m4, l4, h4⟩ := shuffled_ok (g := Si.d) si_flat h3 p.si hp.si_n
  refine ⟨⟨st, jo, ga, si⟩, S4, part_ok hp m1 m2 m3 m4 (by omega) (by omega) (by omega) (by omega), tuple_lst ?_, h4⟩
  exact lc4 (d1 := .tup (p.st.map stD)) (d2 := .tup (p.jo.map joD)) (d3 := .tup (p.ga.map gaD)) (d4 := .tup (p.si.map Si.d)) (S := S) rfl rfl rfl rfl rfl
    (call2 (x := .ref 1) (y := .tup (p.st.map stD)) (S1 := S) (S2 := S) rfl rfl rfl e1)
    (call2 (x := .ref 1) (y := .tup (p.jo.map joD)) (S1 := S1) (S2 := S1) rfl rfl rfl e2)
    (call2 (x := .ref 1) (y := .tup (p.ga.map gaD)) (S1 := S2) (S2 := S2) rfl rfl rfl e3)
    (call2 (x := .ref 1) (y := .tup (p.si.map Si.d)) (S1 := S3) (S2 := S3) rfl rfl rfl e4)
def atE (a b : E) : E := .bi .tuple false [.lc false (.ife (.cmp .eq (.var 9) (.var 4)) a b) (.tp [.nm 9, .nm 8]) (.enum (.var 2)) none [9, 8]]
theorem at_ok {S : Store} {is : List Int} {p : Plan} (hp : p.ok) {t3 t5 t6 t7 : Option D} {k : Nat} (hk : k < 4) :
    (∃ q : Plan, q.ok ∧ evE T_law (atE (.var 8) (.tup [])) (envL is (some p.d) t3 (some (.int k)) t5 t6 t7) S = .ok q.d S) ∧
      ∃ q : Plan, q.ok ∧ evE T_law (atE (.tup []) (.var 8)) (envL is (some p.d) t3 (some (.int k)) t5 t6 t7) S = .ok q.d S := by
  have : k = 0 ∨ k = 1 ∨ k = 2 ∨ k = 3 := by omega
  have nn : ∀ {α : Type} {l : List α}, ∀ x ∈ ([] : List α), x ∈ l := fun {_ _} x m => nomatch m
  have no : ∀ {α : Type} {l : List α}, ([] : List α).length ≤ l.length := fun {_ l} => Nat.zero_le _
  have id' : ∀ {α : Type} {l : List α}, ∀ x ∈ l, x ∈ l := fun {_ _} x m => m
  have le' : ∀ {α : Type} {l : List α}, l.length ≤ l.length := fun {_ _} => Nat.le_refl _
  rcases this with rfl | rfl | rfl | rfl
  · exact ⟨⟨⟨p.st, [], [], []⟩, part_ok hp id' nn nn nn le' no no no, tuple_lst (lc4 (S := S) rfl rfl rfl rfl rfl (S1 := S) rfl (S2 := S) rfl (S3 := S) rfl rfl)⟩, ⟨⟨[], p.jo, p.ga, p.si⟩, part_ok hp nn id' id' id' no le' le' le', tuple_lst (lc4 (S := S) rfl rfl rfl rfl rfl (S1 := S) rfl (S2 := S) rfl (S3 := S) rfl rfl)⟩⟩
  · exact ⟨⟨⟨[], p.jo, [], []⟩, part_ok hp nn id' nn nn no le' no no, tuple_lst (lc4 (S := S) rfl rfl rfl rfl rfl (S1 := S) rfl (S2 := S) rfl (S3 := S) rfl rfl)⟩, ⟨⟨p.st, [], p.ga, p.si⟩, part_ok hp id' nn id' id' le' no le' le', tuple_lst (lc4 (S := S) rfl rfl rfl rfl rfl (S1 := S) rfl (S2 := S) rfl (S3 := S) rfl rfl)⟩⟩
  · exact ⟨⟨⟨[], [], p.ga, []⟩, part_ok hp nn nn id' nn no no le' no, tuple_lst (lc4 (S := S) rfl rfl rfl rfl rfl (S1 := S) rfl (S2 := S) rfl (S3 := S) rfl rfl)⟩, ⟨⟨p.st, p.jo, [], p.si⟩, part_ok hp id' id' nn id' le' le' no le', tuple_lst (lc4 (S := S) rfl rfl rfl rfl rfl (S1 := S) rfl (S2 := S) rfl (S3 := S) rfl rfl)⟩⟩
  · exact ⟨⟨⟨[], [], [], p.si⟩, part_ok hp nn nn nn id' no no no le', tuple_lst (lc4 (S := S) rfl rfl rfl rfl rfl (S1 := S) rfl (S2 := S) rfl (S3 := S) rfl rfl)⟩, ⟨⟨p.st, p.jo, p.ga, []⟩, part_ok hp id' id' id' nn le' le' le' no, tuple_lst (lc4 (S := S) rfl rfl rfl rfl rfl (S1 := S) rfl (S2 := S) rfl (S3 := S) rfl rfl)⟩⟩
def lbL : List Cl.S :=
  [wr 2,
    .for_ (.nm 3) (.rng1 (.lit (.int 3)))
    [.asg (.nm 5) (.bi .tuple false [shufE]), wr 5],
    .for_ (.nm 4) (.rng1 (.lit (.int 4)))
    [.asg (.nm 6) (atE (.var 8) (.tup [])),
    .asg (.nm 7) (atE (.tup []) (.var 8)),
    .ite (.or_ [(.not_ (.call 4 [(.var 6)])), (.not_ (.call 4 [(.var 7)]))])
    [.ret (.lit (.bl false))]
    []]]
theorem body_ok {R S : Store} {is : List Int} {p : Plan} (hp : p.ok) (hS : Dk R S) (t3 t4 t5 t6 t7 : Option D) :
    ∃ u3 u4 u5 u6 u7 S', evSs T_law lbL (envL is (some p.d) t3 t4 t5 t6 t7) S = .ok (.nx (envL is (some p.d) u3 u4 u5 u6 u7)) S' ∧ Dk R S' := by
  obtain ⟨ρ1, S1, e1, ⟨t3', t5', rfl⟩, h1⟩ := for_rng (Φ := T_law) (i := 3) (a := .lit (.int 3)) (body := [.asg (.nm 5) (.bi .tuple false [shufE]), wr 5]) (n := 3) (ρ := envL is (some p.d) t3 t4 t5 t6 t7) (S := S) (S1 := S)
    (fun k ρ S' => (∃ t3 t5, ρ = envL is (some p.d) t3 t4 t5 t6 t7) ∧ Dk R S') rfl (by decide) (by decide) ⟨⟨_, _, rfl⟩, hS⟩ (by
      rintro k ρ S2 hk ⟨⟨t3, t5, rfl⟩, h2⟩
      obtain ⟨q, S3, hq, e3, h3⟩ := shuf_ok (is := is) hp h2 (some (.int k)) t4 t5 t6 t7
      exact ⟨_, S3, seq (asg_e e3 rfl) (seq (wr_ok (i := 5) (p := q) rfl hq) nil_e), ⟨some (.int k), some q.d, rfl⟩, h3⟩)
  obtain ⟨ρ2, S2, e2, ⟨t4', t6', t7', rfl⟩, h2⟩ := for_rng (Φ := T_law) (i := 4) (a := .lit (.int 4)) (body := [.asg (.nm 6) (atE (.var 8) (.tup [])), .asg (.nm 7) (atE (.tup []) (.var 8)), .ite (.or_ [(.not_ (.call 4 [(.var 6)])), (.not_ (.call 4 [(.var 7)]))]) [.ret (.lit (.bl false))] []]) (n := 4) (ρ := envL is (some p.d) t3' t4 t5' t6 t7) (S := S1) (S1 := S1)
    (fun k ρ S' => (∃ t4 t6 t7, ρ = envL is (some p.d) t3' t4 t5' t6 t7) ∧ Dk R S') rfl (by decide) (by decide) ⟨⟨_, _, _, rfl⟩, h1⟩ (by
      rintro k ρ S2 hk ⟨⟨t4, t6, t7, rfl⟩, h2⟩
      have hk : k < 4 := hk
      obtain ⟨⟨q, hq, eq⟩, _⟩ := at_ok (S := S2) (is := is) hp (t3 := t3') (t5 := t5') (t6 := t6) (t7 := t7) hk
      obtain ⟨_, r, hr, er⟩ := at_ok (S := S2) (is := is) hp (t3 := t3') (t5 := t5') (t6 := some q.d) (t7 := t7) hk
      have c6 : evE T_law (.not_ (.call 4 [.var 6])) (envL is (some p.d) t3' (some (.int k)) t5' (some q.d) (some r.d)) S2 = .ok (.bl false) S2 := not_w (i := 6) rfl hq
      have c7 : evE T_law (.not_ (.call 4 [.var 7])) (envL is (some p.d) t3' (some (.int k)) t5' (some q.d) (some r.d)) S2 = .ok (.bl false) S2 := not_w (i := 7) rfl hr
      exact ⟨_, S2, seq (asg_e eq rfl) (seq (asg_e er rfl) (seq ((ite_f (or2_e (p := false) (q := false) c6 c7)).trans nil_e) nil_e)), ⟨some (.int k), some q.d, some r.d, rfl⟩, h2⟩)
  exact ⟨_, _, _, _, _, S2, seq (wr_ok (i := 2) rfl hp) (seq e1 (seq e2 nil_e)), h2⟩
theorem law_ok (is : List Int) (h : is.length ≤ 63) : ∃ S, F_law [.scr (is.map .int)] [] = .ok (.bl true) S := by
  obtain ⟨S1, e1, h1⟩ := deck_ok is h
  obtain ⟨p1, S2, q1, e2, h2⟩ := free_ok h1
  have h2' := dk_app h2 [.lst (([] : List Str).map .str)]
  have hl2 := dk_len h2
  obtain ⟨p2, R3, S3, q2, e3, h3, l3⟩ := checked_ok (u := 0) (names := []) h2' rfl (by decide)
  obtain ⟨p3, S4, q3, e4, h4⟩ := free_ok h3
  have t1 : evS T_law (.asg (.nm 1) (.call 0 [.var 0])) [some (.scr (is.map .int)), none, none, none, none, none, none, none, none, none] [] = .ok (.nx (envL is none none none none none none)) S1 :=
    asg_e (call1 (x := .scr (is.map .int)) (S1 := []) rfl rfl e1) rfl
  have t2 : evS T_law (.ite (.cmp .ne (.call 1 [(.tup [(.tup []), (.tup []), (.tup []), (.tup [])])]) (.lit (.str ""))) [.ret (.lit (.bl false))] []) (envL is none none none none none none) S1 = .ok (.nx (envL is none none none none none none)) S1 :=
    (ite_f (ne_str_f (x := text empty) (call1 (x := empty.d) (S1 := S1) rfl rfl (plan_text_ok empty_ok S1)) rfl)).trans nil_e
  have v1 : ∀ S, evE T_law (.var 1) (envL is none none none none none none) S = .ok (.ref 1) S := fun _ => rfl
  have ca : evE T_law (.call 2 [.var 1]) (envL is none none none none none none) S1 = .ok p1.d S2 := call1 (F := F__law_free) rfl (v1 _) e2
  have cc : evE T_law (.call 2 [.var 1]) (envL is none none none none none none) S3 = .ok p3.d S4 := call1 (F := F__law_free) rfl (v1 _) e4
  have e3' : F__law_checked [.ref 1, .ref 2, .int 12] (S2 ++ [.lst []]) = .ok p2.d S3 := e3
  have cl : evE T_law (.lst true []) (envL is none none none none none none) S2 = .ok (.ref 2) (S2 ++ [.lst []]) := new_lst hl2
  generalize S2 ++ [.lst []] = Sy at e3' cl
  have cb : evE T_law (.call 3 [.var 1, .lst true [], .lit (.int 12)]) (envL is none none none none none none) S2 = .ok p2.d S3 := call3 (F := F__law_checked) (S3 := Sy) rfl (v1 _) cl rfl e3'
  have w : evIt T_law (.walk (.tup [(.call 2 [(.var 1)]), (.call 3 [(.var 1), (.lst true []), (.lit (.int 12))]), (.call 2 [(.var 1)])])) (envL is none none none none none none) S1 = .ok ⟨[p1, p2, p3].map Plan.d, none⟩ S4 := by
    have z : evE T_law (.tup [(.call 2 [(.var 1)]), (.call 3 [(.var 1), (.lst true []), (.lit (.int 12))]), (.call 2 [(.var 1)])]) (envL is none none none none none none) S1 = .ok (.tup [p1.d, p2.d, p3.d]) S4 := tup3 ca cb cc
    simp only [evIt]
    rw [z]
    rfl
  obtain ⟨ρ5, S5, e5, _, h5⟩ := forL_map (J := ⟨[p1, p2, p3].map Plan.d, none⟩) Plan.d [p1, p2, p3]
    (f := fun d ρ1 S2 => match asgT (.nm 2) d ρ1 with
      | none => .stuck
      | some ρ2 => evSs T_law lbL ρ2 S2)
    (fun done ρ S => (∃ t2 t3 t4 t5 t6 t7, ρ = envL is t2 t3 t4 t5 t6 t7) ∧ Dk R3 S) (fun _ _ _ _ => trivial) (xs := [p1, p2, p3]) (done := []) (ρ := envL is none none none none none none) (S := S4) rfl ⟨⟨_, _, _, _, _, _, rfl⟩, h4⟩ (by
      rintro done p rest ρ S eall ⟨⟨t2, t3, t4, t5, t6, t7, rfl⟩, hS⟩
      have hp : p.ok := by
        have m : p ∈ [p1, p2, p3] := by rw [eall]; simp
        rcases List.mem_cons.mp m with rfl | m
        · exact q1
        rcases List.mem_cons.mp m with rfl | m
        · exact q2
        · rw [List.mem_singleton] at m
          rw [m]
          exact q3
      obtain ⟨u3, u4, u5, u6, u7, S', e, h⟩ := body_ok (is := is) hp hS t3 t4 t5 t6 t7
      exact ⟨_, S', e, ⟨_, _, _, _, _, _, rfl⟩, h⟩)
  have all : evSs T_law b_law [some (.scr (is.map .int)), none, none, none, none, none, none, none, none, none] [] = .ok (.rt (.bl true)) S5 := seq t1 (seq t2 (seq (for_e w e5) (ret_e rfl)))
  refine ⟨trim 0 [] (.bl true) S5, ?_⟩
  unfold F_law evF
  show (match evSs T_law b_law [some (.scr (is.map .int)), none, none, none, none, none, none, none, none, none] [] with
    | .ok (.rt d) S1 => fin [] d S1
    | .ok (.nx _) S1 => fin [] .non S1
    | .ok (.ex c fs _) S1 => .exc c fs S1
    | _ => .stuck) = _
  rw [all]
  rfl
end K02

set_option Elab.async false
set_option linter.all false
set_option autoImplicit false
set_option maxRecDepth 100000
set_option maxHeartbeats 0
/-! law_k02_texts_of_plans: the checks, the head. -/
namespace K02
open PySem PySem.Spec PyProof.Rows L2 Cl
def top (i : Nat) : Stmt := PySem.Challenge.pw_clearline_k02_texts_of_plans.main.body.getD i (.Pass ⟨0, 0, 0, 0⟩)
abbrev s_is_whole : Stmt := top 8
theorem c_is_whole : cSs T_is_whole ⟨n_is_whole, defScope s_is_whole, fun _ => true⟩ b_is_whole (defBody s_is_whole) = true := by decide +kernel
theorem sc_is_whole : FnScope n_is_whole ["thing"] (defScope s_is_whole) := scope_by (by decide +kernel)
abbrev s_is_name : Stmt := top 9
theorem c_is_name : cSs T_is_name ⟨n_is_name, defScope s_is_name, fun _ => true⟩ b_is_name (defBody s_is_name) = true := by decide +kernel
theorem sc_is_name : FnScope n_is_name ["thing"] (defScope s_is_name) := scope_by (by decide +kernel)
abbrev s_is_end_number : Stmt := top 10
theorem c_is_end_number : cSs T_is_end_number ⟨n_is_end_number, defScope s_is_end_number, fun _ => true⟩ b_is_end_number (defBody s_is_end_number) = true := by decide +kernel
theorem sc_is_end_number : FnScope n_is_end_number ["thing"] (defScope s_is_end_number) := scope_by (by decide +kernel)
abbrev s_is_end_form : Stmt := top 11
theorem c_is_end_form : cSs T_is_end_form ⟨n_is_end_form, defScope s_is_end_form, fun _ => true⟩ b_is_end_form (defBody s_is_end_form) = true := by decide +kernel
theorem sc_is_end_form : FnScope n_is_end_form ["thing"] (defScope s_is_end_form) := scope_by (by decide +kernel)
abbrev s_is_step_form : Stmt := top 12
theorem c_is_step_form : cSs T_is_step_form ⟨n_is_step_form, defScope s_is_step_form, fun _ => true⟩ b_is_step_form (defBody s_is_step_form) = true := by decide +kernel
theorem sc_is_step_form : FnScope n_is_step_form ["thing"] (defScope s_is_step_form) := scope_by (by decide +kernel)
abbrev s_is_stretch : Stmt := top 13
theorem c_is_stretch : cSs T_is_stretch ⟨n_is_stretch, defScope s_is_stretch, fun _ => true⟩ b_is_stretch (defBody s_is_stretch) = true := by decide +kernel
theorem sc_is_stretch : FnScope n_is_stretch ["thing"] (defScope s_is_stretch) := scope_by (by decide +kernel)
abbrev s_is_joint : Stmt := top 14
theorem c_is_joint : cSs T_is_joint ⟨n_is_joint, defScope s_is_joint, fun _ => true⟩ b_is_joint (defBody s_is_joint) = true := by decide +kernel
theorem sc_is_joint : FnScope n_is_joint ["thing"] (defScope s_is_joint) := scope_by (by decide +kernel)
abbrev s_is_gate : Stmt := top 15
theorem c_is_gate : cSs T_is_gate ⟨n_is_gate, defScope s_is_gate, fun _ => true⟩ b_is_gate (defBody s_is_gate) = true := by decide +kernel
theorem sc_is_gate : FnScope n_is_gate ["thing"] (defScope s_is_gate) := scope_by (by decide +kernel)
abbrev s_is_signal : Stmt := top 16
theorem c_is_signal : cSs T_is_signal ⟨n_is_signal, defScope s_is_signal, fun _ => true⟩ b_is_signal (defBody s_is_signal) = true := by decide +kernel
theorem sc_is_signal : FnScope n_is_signal ["thing"] (defScope s_is_signal) := scope_by (by decide +kernel)
abbrev s_is_plan_value : Stmt := top 17
theorem c_is_plan_value : cSs T_is_plan_value ⟨n_is_plan_value, defScope s_is_plan_value, fun _ => true⟩ b_is_plan_value (defBody s_is_plan_value) = true := by decide +kernel
theorem sc_is_plan_value : FnScope n_is_plan_value ["thing"] (defScope s_is_plan_value) := scope_by (by decide +kernel)
abbrev s_need_plan : Stmt := top 18
theorem c_need_plan : cSs T_need_plan ⟨n_need_plan, defScope s_need_plan, fun _ => true⟩ b_need_plan (defBody s_need_plan) = true := by decide +kernel
theorem sc_need_plan : FnScope n_need_plan ["thing"] (defScope s_need_plan) := scope_by (by decide +kernel)
abbrev s_end_text : Stmt := top 25
theorem c_end_text : cSs T_end_text ⟨n_end_text, defScope s_end_text, fun _ => true⟩ b_end_text (defBody s_end_text) = true := by decide +kernel
theorem sc_end_text : FnScope n_end_text ["end"] (defScope s_end_text) := scope_by (by decide +kernel)
abbrev s_plan_text : Stmt := top 26
theorem c_plan_text : cSs T_plan_text ⟨n_plan_text, defScope s_plan_text, fun _ => true⟩ b_plan_text (defBody s_plan_text) = true := by decide +kernel
theorem sc_plan_text : FnScope n_plan_text ["plan"] (defScope s_plan_text) := scope_by (by decide +kernel)
abbrev s__law_deck : Stmt := top 28
theorem c__law_deck : cSs T__law_deck ⟨n__law_deck, defScope s__law_deck, fun _ => true⟩ b__law_deck (defBody s__law_deck) = true := by decide +kernel
theorem sc__law_deck : FnScope n__law_deck ["script"] (defScope s__law_deck) := scope_by (by decide +kernel)
abbrev s__law_draw : Stmt := top 29
theorem c__law_draw : cSs T__law_draw ⟨n__law_draw, defScope s__law_draw, fun _ => true⟩ b__law_draw (defBody s__law_draw) = true := by decide +kernel
theorem sc__law_draw : FnScope n__law_draw ["deck", "many"] (defScope s__law_draw) := scope_by (by decide +kernel)
abbrev s__law_pick : Stmt := top 30
theorem c__law_pick : cSs T__law_pick ⟨n__law_pick, defScope s__law_pick, fun _ => true⟩ b__law_pick (defBody s__law_pick) = true := by decide +kernel
theorem sc__law_pick : FnScope n__law_pick ["deck", "some"] (defScope s__law_pick) := scope_by (by decide +kernel)
abbrev s__law_name : Stmt := top 31
theorem c__law_name : cSs T__law_name ⟨n__law_name, defScope s__law_name, fun _ => true⟩ b__law_name (defBody s__law_name) = true := by decide +kernel
theorem sc__law_name : FnScope n__law_name ["deck", "used"] (defScope s__law_name) := scope_by (by decide +kernel)
abbrev s__law_joints : Stmt := top 32
theorem c__law_joints : cSs T__law_joints ⟨n__law_joints, defScope s__law_joints, fun _ => true⟩ b__law_joints (defBody s__law_joints) = true := by decide +kernel
theorem sc__law_joints : FnScope n__law_joints ["deck", "free", "joined"] (defScope s__law_joints) := scope_by (by decide +kernel)
abbrev s__law_over : Stmt := top 33
theorem c__law_over : cSs T__law_over ⟨n__law_over, defScope s__law_over, fun _ => true⟩ b__law_over (defBody s__law_over) = true := by decide +kernel
theorem sc__law_over : FnScope n__law_over ["deck", "kinds", "end"] (defScope s__law_over) := scope_by (by decide +kernel)
abbrev s__law_checked : Stmt := top 34
theorem c__law_checked : cSs T__law_checked ⟨n__law_checked, defScope s__law_checked, fun _ => true⟩ b__law_checked (defBody s__law_checked) = true := by decide +kernel
theorem sc__law_checked : FnScope n__law_checked ["deck", "used", "most"] (defScope s__law_checked) := scope_by (by decide +kernel)
abbrev s__law_free : Stmt := top 35
theorem c__law_free : cSs T__law_free ⟨n__law_free, defScope s__law_free, fun _ => true⟩ b__law_free (defBody s__law_free) = true := by decide +kernel
theorem sc__law_free : FnScope n__law_free ["deck"] (defScope s__law_free) := scope_by (by decide +kernel)
abbrev s__law_lines : Stmt := top 36
theorem c__law_lines : cSs T__law_lines ⟨n__law_lines, defScope s__law_lines, fun _ => true⟩ b__law_lines (defBody s__law_lines) = true := by decide +kernel
theorem sc__law_lines : FnScope n__law_lines ["plan"] (defScope s__law_lines) := scope_by (by decide +kernel)
abbrev s__law_shuffled : Stmt := top 37
theorem c__law_shuffled : cSs T__law_shuffled ⟨n__law_shuffled, defScope s__law_shuffled, fun _ => true⟩ b__law_shuffled (defBody s__law_shuffled) = true := by decide +kernel
theorem sc__law_shuffled : FnScope n__law_shuffled ["deck", "some"] (defScope s__law_shuffled) := scope_by (by decide +kernel)
abbrev s__law_is_written : Stmt := top 38
theorem c__law_is_written : cSs T__law_is_written ⟨n__law_is_written, defScope s__law_is_written, fun _ => true⟩ b__law_is_written (defBody s__law_is_written) = true := by decide +kernel
theorem sc__law_is_written : FnScope n__law_is_written ["plan"] (defScope s__law_is_written) := scope_by (by decide +kernel)
abbrev s_law : Stmt := top 39
theorem c_law : cSs T_law ⟨n_law, defScope s_law, fun _ => true⟩ b_law (defBody s_law) = true := by decide +kernel
theorem sc_law : FnScope n_law ["script"] (defScope s_law) := scope_by (by decide +kernel)
abbrev FnP (K : Frag) (x : Str) (st : Stmt) (f : Addr) (fd : FuncData) : Prop := FunD K x x (defArgs st) (defBody st) (defScope st) [] [] f fd
def d_is_whole : He.DefD := ⟨("is_whole", none), "is_whole", "is_whole", defArgs s_is_whole, defBody s_is_whole, defScope s_is_whole, [], []⟩
def d_is_name : He.DefD := ⟨("is_name", none), "is_name", "is_name", defArgs s_is_name, defBody s_is_name, defScope s_is_name, [], []⟩
def d_is_end_number : He.DefD := ⟨("is_end_number", none), "is_end_number", "is_end_number", defArgs s_is_end_number, defBody s_is_end_number, defScope s_is_end_number, [], []⟩
def d_is_end_form : He.DefD := ⟨("is_end_form", none), "is_end_form", "is_end_form", defArgs s_is_end_form, defBody s_is_end_form, defScope s_is_end_form, [], []⟩
def d_is_step_form : He.DefD := ⟨("is_step_form", none), "is_step_form", "is_step_form", defArgs s_is_step_form, defBody s_is_step_form, defScope s_is_step_form, [], []⟩
def d_is_stretch : He.DefD := ⟨("is_stretch", none), "is_stretch", "is_stretch", defArgs s_is_stretch, defBody s_is_stretch, defScope s_is_stretch, [], []⟩
def d_is_joint : He.DefD := ⟨("is_joint", none), "is_joint", "is_joint", defArgs s_is_joint, defBody s_is_joint, defScope s_is_joint, [], []⟩
def d_is_gate : He.DefD := ⟨("is_gate", none), "is_gate", "is_gate", defArgs s_is_gate, defBody s_is_gate, defScope s_is_gate, [], []⟩
def d_is_signal : He.DefD := ⟨("is_signal", none), "is_signal", "is_signal", defArgs s_is_signal, defBody s_is_signal, defScope s_is_signal, [], []⟩
def d_is_plan_value : He.DefD := ⟨("is_plan_value", none), "is_plan_value", "is_plan_value", defArgs s_is_plan_value, defBody s_is_plan_value, defScope s_is_plan_value, [], []⟩
def d_need_plan : He.DefD := ⟨("need_plan", none), "need_plan", "need_plan", defArgs s_need_plan, defBody s_need_plan, defScope s_need_plan, [], []⟩
def d_end_text : He.DefD := ⟨("end_text", none), "end_text", "end_text", defArgs s_end_text, defBody s_end_text, defScope s_end_text, [], []⟩
def d_plan_text : He.DefD := ⟨("plan_text", none), "plan_text", "plan_text", defArgs s_plan_text, defBody s_plan_text, defScope s_plan_text, [], []⟩
def d__law_deck : He.DefD := ⟨("_law_deck", none), "_law_deck", "_law_deck", defArgs s__law_deck, defBody s__law_deck, defScope s__law_deck, [], []⟩
def d__law_draw : He.DefD := ⟨("_law_draw", none), "_law_draw", "_law_draw", defArgs s__law_draw, defBody s__law_draw, defScope s__law_draw, [], []⟩
def d__law_pick : He.DefD := ⟨("_law_pick", none), "_law_pick", "_law_pick", defArgs s__law_pick, defBody s__law_pick, defScope s__law_pick, [], []⟩
def d__law_name : He.DefD := ⟨("_law_name", none), "_law_name", "_law_name", defArgs s__law_name, defBody s__law_name, defScope s__law_name, [], []⟩
def d__law_joints : He.DefD := ⟨("_law_joints", none), "_law_joints", "_law_joints", defArgs s__law_joints, defBody s__law_joints, defScope s__law_joints, [], []⟩
def d__law_over : He.DefD := ⟨("_law_over", none), "_law_over", "_law_over", defArgs s__law_over, defBody s__law_over, defScope s__law_over, [], []⟩
def d__law_checked : He.DefD := ⟨("_law_checked", none), "_law_checked", "_law_checked", defArgs s__law_checked, defBody s__law_checked, defScope s__law_checked, [], []⟩
def d__law_free : He.DefD := ⟨("_law_free", none), "_law_free", "_law_free", defArgs s__law_free, defBody s__law_free, defScope s__law_free, [], []⟩
def d__law_lines : He.DefD := ⟨("_law_lines", none), "_law_lines", "_law_lines", defArgs s__law_lines, defBody s__law_lines, defScope s__law_lines, [], []⟩
def d__law_shuffled : He.DefD := ⟨("_law_shuffled", none), "_law_shuffled", "_law_shuffled", defArgs s__law_shuffled, defBody s__law_shuffled, defScope s__law_shuffled, [], []⟩
def d__law_is_written : He.DefD := ⟨("_law_is_written", none), "_law_is_written", "_law_is_written", defArgs s__law_is_written, defBody s__law_is_written, defScope s__law_is_written, [], []⟩
def d_law : He.DefD := ⟨("law", none), "law", "law", defArgs s_law, defBody s_law, defScope s_law, [], []⟩
def fn : List He.DefD := [d_is_whole, d_is_name, d_is_end_number, d_is_end_form, d_is_step_form, d_is_stretch, d_is_joint, d_is_gate, d_is_signal, d_is_plan_value, d_need_plan, d_end_text, d_plan_text, d__law_deck, d__law_draw, d__law_pick, d__law_name, d__law_joints, d__law_over, d__law_checked, d__law_free, d__law_lines, d__law_shuffled, d__law_is_written, d_law]
def fa : List He.Fa := [.glo "is_whole", .glo "is_name", .glo "is_end_number", .glo "is_end_form", .glo "is_step_form", .glo "is_stretch", .glo "is_joint", .glo "is_gate", .glo "is_signal", .glo "is_plan_value", .glo "need_plan", .glo "end_text", .glo "plan_text", .glo "_law_deck", .glo "_law_draw", .glo "_law_pick", .glo "_law_name", .glo "_law_joints", .glo "_law_over", .glo "_law_checked", .glo "_law_free", .glo "_law_lines", .glo "_law_shuffled", .glo "_law_is_written", .glo "law", .free "all", .free "bool", .free "enumerate", .free "int", .free "isinstance", .free "len", .free "list", .free "max", .free "range", .free "str", .free "tuple"]
def ts : List He.Tab := [(fun K => He.ga K "ENDS", ["plain", "points", "crossing"])]
def cs : List (Str × D) := [("ENDS", k_ENDS), ("GATE", k_GATE), ("JOIN", k_JOIN), ("LETTERS", k_LETTERS), ("MOST_SIGNS", k_MOST_SIGNS), ("OVER", k_OVER), ("SIGNAL", k_SIGNAL), ("SIGNS", k_SIGNS), ("STRETCH", k_STRETCH)]
abbrev R : PySem.W.OpenRow := PySem.W.OpenLaw.row PySem.Challenge.rw_clearline_k02_texts_of_plans
abbrev hk : PySem.W.Hook := He.hookX 5 fa fn ts [] (consB cs)
def ob (s : PySem.W.SharedT) : He.AlX := He.obsX 5 fa fn ts [] (consB cs) (HandSHeadRun.getT s)
theorem ob_eq (s : PySem.W.SharedT) : ob s = hk.obs s.abs := He.obsX_eq (HandSHeadRun.getT_eq s)
def loose0 : List PySem.Str := ["__name__", "LineError", "BadPlan", "LETTERS", "SIGNS", "MOST_SIGNS", "ENDS", "is_whole", "is_name", "is_end_number", "is_end_form", "is_step_form", "is_stretch", "is_joint", "is_gate", "is_signal", "is_plan_value", "need_plan", "JOIN", "GATE"]
def loose1 : List PySem.Str := ["SIGNAL", "STRETCH", "OVER", "end_text", "plan_text", "_law_deck", "_law_draw", "_law_pick", "_law_name", "_law_joints", "_law_over", "_law_checked", "_law_free", "_law_lines", "_law_shuffled", "_law_is_written"]
def loose : List PySem.Str := (List.append loose0 loose1)
theorem run (w : World) : HandSHeadRun.RunEq R (PySem.W.view R.prog [39]) hk ob 1500 loose w :=
  PySem.W.byRow2 "special-get-raises" (P := fun w => HandSHeadRun.RunEq R (PySem.W.view R.prog [39]) hk ob 1500 loose w) (fun w => by intro os; kernel_rfl) (fun w => by intro os; kernel_rfl) w
theorem facts {P : Program} {w : World} {K : Frag} {h : Heap} {mg : Str → Option Value} {f : Addr} (X : K.In h) (G : h.Ns mainGlobals mg) (hfa : mg ("law" : Str) = some (.ref f)) (c : He.SaysX fa fn ts [] (consB cs) w h K) :
    ∃ fd : FuncData, (∀ (s : Shared) (v : Value), BindsTo s fd ⟨[v], []⟩ [("script", v)]) ∧ ∀ base : Heap, K.In base → base.Ns mainGlobals mg → FnOk P w K mg base (L2.CX P w) 10 f fd ["script"] (spF K w mg 1 F_law) := by
  have cd := c.t.d
  have hc : ∀ p ∈ cs, conB K p = true := fun p m => List.all_eq_true.mp c.more p m
  obtain ⟨fd_is_whole, D_is_whole⟩ := cd.def_ 0 (d := d_is_whole) rfl
  have g_is_whole := He.glo_ok X G (cd.fact 0 (f := .glo "is_whole") rfl)
  obtain ⟨fd_is_name, D_is_name⟩ := cd.def_ 1 (d := d_is_name) rfl
  have g_is_name := He.glo_ok X G (cd.fact 1 (f := .glo "is_name") rfl)
  obtain ⟨fd_is_end_number, D_is_end_number⟩ := cd.def_ 2 (d := d_is_end_number) rfl
  have g_is_end_number := He.glo_ok X G (cd.fact 2 (f := .glo "is_end_number") rfl)
  obtain ⟨fd_is_end_form, D_is_end_form⟩ := cd.def_ 3 (d := d_is_end_form) rfl
  have g_is_end_form := He.glo_ok X G (cd.fact 3 (f := .glo "is_end_form") rfl)
  obtain ⟨fd_is_step_form, D_is_step_form⟩ := cd.def_ 4 (d := d_is_step_form) rfl
  have g_is_step_form := He.glo_ok X G (cd.fact 4 (f := .glo "is_step_form") rfl)
  obtain ⟨fd_is_stretch, D_is_stretch⟩ := cd.def_ 5 (d := d_is_stretch) rfl
  have g_is_stretch := He.glo_ok X G (cd.fact 5 (f := .glo "is_stretch") rfl)
  obtain ⟨fd_is_joint, D_is_joint⟩ := cd.def_ 6 (d := d_is_joint) rfl
  have g_is_joint := He.glo_ok X G (cd.fact 6 (f := .glo "is_joint") rfl)
  obtain ⟨fd_is_gate, D_is_gate⟩ := cd.def_ 7 (d := d_is_gate) rfl
  have g_is_gate := He.glo_ok X G (cd.fact 7 (f := .glo "is_gate") rfl)
  obtain ⟨fd_is_signal, D_is_signal⟩ := cd.def_ 8 (d := d_is_signal) rfl
  have g_is_signal := He.glo_ok X G (cd.fact 8 (f := .glo "is_signal") rfl)
  obtain ⟨fd_is_plan_value, D_is_plan_value⟩ := cd.def_ 9 (d := d_is_plan_value) rfl
  have g_is_plan_value := He.glo_ok X G (cd.fact 9 (f := .glo "is_plan_value") rfl)
  obtain ⟨fd_need_plan, D_need_plan⟩ := cd.def_ 10 (d := d_need_plan) rfl
  have g_need_plan := He.glo_ok X G (cd.fact 10 (f := .glo "need_plan") rfl)
  obtain ⟨fd_end_text, D_end_text⟩ := cd.def_ 11 (d := d_end_text) rfl
  have g_end_text := He.glo_ok X G (cd.fact 11 (f := .glo "end_text") rfl)
  obtain ⟨fd_plan_text, D_plan_text⟩ := cd.def_ 12 (d := d_plan_text) rfl
  have g_plan_text := He.glo_ok X G (cd.fact 12 (f := .glo "plan_text") rfl)
  obtain ⟨fd__law_deck, D__law_deck⟩ := cd.def_ 13 (d := d__law_deck) rfl
  have g__law_deck := He.glo_ok X G (cd.fact 13 (f := .glo "_law_deck") rfl)
  obtain ⟨fd__law_draw, D__law_draw⟩ := cd.def_ 14 (d := d__law_draw) rfl
  have g__law_draw := He.glo_ok X G (cd.fact 14 (f := .glo "_law_draw") rfl)
  obtain ⟨fd__law_pick, D__law_pick⟩ := cd.def_ 15 (d := d__law_pick) rfl
  have g__law_pick := He.glo_ok X G (cd.fact 15 (f := .glo "_law_pick") rfl)
  obtain ⟨fd__law_name, D__law_name⟩ := cd.def_ 16 (d := d__law_name) rfl
  have g__law_name := He.glo_ok X G (cd.fact 16 (f := .glo "_law_name") rfl)
  obtain ⟨fd__law_joints, D__law_joints⟩ := cd.def_ 17 (d := d__law_joints) rfl
  have g__law_joints := He.glo_ok X G (cd.fact 17 (f := .glo "_law_joints") rfl)
  obtain ⟨fd__law_over, D__law_over⟩ := cd.def_ 18 (d := d__law_over) rfl
  have g__law_over := He.glo_ok X G (cd.fact 18 (f := .glo "_law_over") rfl)
  obtain ⟨fd__law_checked, D__law_checked⟩ := cd.def_ 19 (d := d__law_checked) rfl
  have g__law_checked := He.glo_ok X G (cd.fact 19 (f := .glo "_law_checked") rfl)
  obtain ⟨fd__law_free, D__law_free⟩ := cd.def_ 20 (d := d__law_free) rfl
  have g__law_free := He.glo_ok X G (cd.fact 20 (f := .glo "_law_free") rfl)
  obtain ⟨fd__law_lines, D__law_lines⟩ := cd.def_ 21 (d := d__law_lines) rfl
  have g__law_lines := He.glo_ok X G (cd.fact 21 (f := .glo "_law_lines") rfl)
  obtain ⟨fd__law_shuffled, D__law_shuffled⟩ := cd.def_ 22 (d := d__law_shuffled) rfl
  have g__law_shuffled := He.glo_ok X G (cd.fact 22 (f := .glo "_law_shuffled") rfl)
  obtain ⟨fd__law_is_written, D__law_is_written⟩ := cd.def_ 23 (d := d__law_is_written) rfl
  have g__law_is_written := He.glo_ok X G (cd.fact 23 (f := .glo "_law_is_written") rfl)
  obtain ⟨fd_law, D_law⟩ := cd.def_ 24 (d := d_law) rfl
  have g_law := He.glo_ok X G (cd.fact 24 (f := .glo "law") rfl)
  have elaw := hfa.symm.trans g_law
  cases elaw
  have b := FunD.bindsA (ps := ["script"]) D_law fun _ _ _ _ _ _ us hl => match us, hl with | [_], _ => rfl
  refine ⟨fd_law, fun s v => b s [v] rfl, fun base _ _ => ?_⟩
  have U_all : ∀ k, UseOk P w K mg base k (.free "all") := fun k => use_free X G (cd.fact 25 (f := .free "all") rfl)
  have U_bool : ∀ k, UseOk P w K mg base k (.free "bool") := fun k => use_free X G (cd.fact 26 (f := .free "bool") rfl)
  have U_enumerate : ∀ k, UseOk P w K mg base k (.free "enumerate") := fun k => use_free X G (cd.fact 27 (f := .free "enumerate") rfl)
  have U_int : ∀ k, UseOk P w K mg base k (.free "int") := fun k => use_free X G (cd.fact 28 (f := .free "int") rfl)
  have U_isinstance : ∀ k, UseOk P w K mg base k (.free "isinstance") := fun k => use_free X G (cd.fact 29 (f := .free "isinstance") rfl)
  have U_len : ∀ k, UseOk P w K mg base k (.free "len") := fun k => use_free X G (cd.fact 30 (f := .free "len") rfl)
  have U_list : ∀ k, UseOk P w K mg base k (.free "list") := fun k => use_free X G (cd.fact 31 (f := .free "list") rfl)
  have U_max : ∀ k, UseOk P w K mg base k (.free "max") := fun k => use_free X G (cd.fact 32 (f := .free "max") rfl)
  have U_range : ∀ k, UseOk P w K mg base k (.free "range") := fun k => use_free X G (cd.fact 33 (f := .free "range") rfl)
  have U_str : ∀ k, UseOk P w K mg base k (.free "str") := fun k => use_free X G (cd.fact 34 (f := .free "str") rfl)
  have U_tuple : ∀ k, UseOk P w K mg base k (.free "tuple") := fun k => use_free X G (cd.fact 35 (f := .free "tuple") rfl)
  obtain ⟨es_ENDS, en_ENDS, t_ENDS⟩ := c.t.tab 0 (t := (fun K => He.ga K "ENDS", ["plain", "points", "crossing"])) rfl
  have U_ENDS : ∀ k, UseOk P w K mg base k (.con "ENDS" k_ENDS) := fun k => use_cdc X G (hc ("ENDS", k_ENDS) (by simp [cs])) t_ENDS
  have U_GATE : ∀ k, UseOk P w K mg base k (.con "GATE" k_GATE) := fun k => use_con X G (hc ("GATE", k_GATE) (by simp [cs])) (fun _ _ z => nomatch z)
  have U_JOIN : ∀ k, UseOk P w K mg base k (.con "JOIN" k_JOIN) := fun k => use_con X G (hc ("JOIN", k_JOIN) (by simp [cs])) (fun _ _ z => nomatch z)
  have U_LETTERS : ∀ k, UseOk P w K mg base k (.con "LETTERS" k_LETTERS) := fun k => use_con X G (hc ("LETTERS", k_LETTERS) (by simp [cs])) (fun _ _ z => nomatch z)
  have U_MOST_SIGNS : ∀ k, UseOk P w K mg base k (.con "MOST_SIGNS" k_MOST_SIGNS) := fun k => use_con X G (hc ("MOST_SIGNS", k_MOST_SIGNS) (by simp [cs])) (fun _ _ z => nomatch z)
  have U_OVER : ∀ k, UseOk P w K mg base k (.con "OVER" k_OVER) := fun k => use_con X G (hc ("OVER", k_OVER) (by simp [cs])) (fun _ _ z => nomatch z)
  have U_SIGNAL : ∀ k, UseOk P w K mg base k (.con "SIGNAL" k_SIGNAL) := fun k => use_con X G (hc ("SIGNAL", k_SIGNAL) (by simp [cs])) (fun _ _ z => nomatch z)
  have U_SIGNS : ∀ k, UseOk P w K mg base k (.con "SIGNS" k_SIGNS) := fun k => use_con X G (hc ("SIGNS", k_SIGNS) (by simp [cs])) (fun _ _ z => nomatch z)
  have U_STRETCH : ∀ k, UseOk P w K mg base k (.con "STRETCH" k_STRETCH) := fun k => use_con X G (hc ("STRETCH", k_STRETCH) (by simp [cs])) (fun _ _ z => nomatch z)
  have O_is_whole := sound_def (P := P) (w := w) (mg := mg) (base := base) (k := 1) D_is_whole sc_is_whole c_is_whole (us_cons (U_isinstance 1) (us_cons (U_int 1) (us_cons (U_bool 1) (us_nil))))
  have V_is_whole : ∀ k, 2 ≤ k → UseOk P w K mg base k (.fn "is_whole" ["thing"] F_is_whole) := fun k hk => UseOk.mono hk ⟨_, fd_is_whole, O_is_whole, g_is_whole, D_is_whole.kp, FunD.bindsN D_is_whole fun _ _ _ _ _ _ us hl => match us, hl with | [_], _ => rfl⟩
  have O_is_name := sound_def (P := P) (w := w) (mg := mg) (base := base) (k := 1) D_is_name sc_is_name c_is_name (us_cons (U_isinstance 1) (us_cons (U_str 1) (us_cons (U_len 1) (us_cons (U_MOST_SIGNS 1) (us_cons (U_LETTERS 1) (us_cons (U_all 1) (us_cons (U_SIGNS 1) (us_nil))))))))
  have V_is_name : ∀ k, 2 ≤ k → UseOk P w K mg base k (.fn "is_name" ["thing"] F_is_name) := fun k hk => UseOk.mono hk ⟨_, fd_is_name, O_is_name, g_is_name, D_is_name.kp, FunD.bindsN D_is_name fun _ _ _ _ _ _ us hl => match us, hl with | [_], _ => rfl⟩
  have O_is_end_number := sound_def (P := P) (w := w) (mg := mg) (base := base) (k := 2) D_is_end_number sc_is_end_number c_is_end_number (us_cons (V_is_whole 2 (by decide)) (us_nil))
  have V_is_end_number : ∀ k, 3 ≤ k → UseOk P w K mg base k (.fn "is_end_number" ["thing"] F_is_end_number) := fun k hk => UseOk.mono hk ⟨_, fd_is_end_number, O_is_end_number, g_is_end_number, D_is_end_number.kp, FunD.bindsN D_is_end_number fun _ _ _ _ _ _ us hl => match us, hl with | [_], _ => rfl⟩
  have O_is_end_form := sound_def (P := P) (w := w) (mg := mg) (base := base) (k := 3) D_is_end_form sc_is_end_form c_is_end_form (us_cons (U_isinstance 3) (us_cons (U_tuple 3) (us_cons (U_len 3) (us_cons (V_is_name 3 (by decide)) (us_cons (V_is_end_number 3 (by decide)) (us_nil))))))
  have V_is_end_form : ∀ k, 4 ≤ k → UseOk P w K mg base k (.fn "is_end_form" ["thing"] F_is_end_form) := fun k hk => UseOk.mono hk ⟨_, fd_is_end_form, O_is_end_form, g_is_end_form, D_is_end_form.kp, FunD.bindsN D_is_end_form fun _ _ _ _ _ _ us hl => match us, hl with | [_], _ => rfl⟩
  have O_is_step_form := sound_def (P := P) (w := w) (mg := mg) (base := base) (k := 3) D_is_step_form sc_is_step_form c_is_step_form (us_cons (U_isinstance 3) (us_cons (U_tuple 3) (us_cons (U_len 3) (us_cons (V_is_name 3 (by decide)) (us_cons (V_is_end_number 3 (by decide)) (us_nil))))))
  have V_is_step_form : ∀ k, 4 ≤ k → UseOk P w K mg base k (.fn "is_step_form" ["thing"] F_is_step_form) := fun k hk => UseOk.mono hk ⟨_, fd_is_step_form, O_is_step_form, g_is_step_form, D_is_step_form.kp, FunD.bindsN D_is_step_form fun _ _ _ _ _ _ us hl => match us, hl with | [_], _ => rfl⟩
  have O_is_stretch := sound_def (P := P) (w := w) (mg := mg) (base := base) (k := 2) D_is_stretch sc_is_stretch c_is_stretch (us_cons (U_isinstance 2) (us_cons (U_tuple 2) (us_cons (U_len 2) (us_cons (V_is_name 2 (by decide)) (us_cons (U_str 2) (us_cons (U_ENDS 2) (us_nil)))))))
  have V_is_stretch : ∀ k, 3 ≤ k → UseOk P w K mg base k (.fn "is_stretch" ["thing"] F_is_stretch) := fun k hk => UseOk.mono hk ⟨_, fd_is_stretch, O_is_stretch, g_is_stretch, D_is_stretch.kp, FunD.bindsN D_is_stretch fun _ _ _ _ _ _ us hl => match us, hl with | [_], _ => rfl⟩
  have O_is_joint := sound_def (P := P) (w := w) (mg := mg) (base := base) (k := 4) D_is_joint sc_is_joint c_is_joint (us_cons (U_isinstance 4) (us_cons (U_tuple 4) (us_cons (U_len 4) (us_cons (V_is_end_form 4 (by decide)) (us_nil)))))
  have V_is_joint : ∀ k, 5 ≤ k → UseOk P w K mg base k (.fn "is_joint" ["thing"] F_is_joint) := fun k hk => UseOk.mono hk ⟨_, fd_is_joint, O_is_joint, g_is_joint, D_is_joint.kp, FunD.bindsN D_is_joint fun _ _ _ _ _ _ us hl => match us, hl with | [_], _ => rfl⟩
  have O_is_gate := sound_def (P := P) (w := w) (mg := mg) (base := base) (k := 4) D_is_gate sc_is_gate c_is_gate (us_cons (U_isinstance 4) (us_cons (U_tuple 4) (us_cons (U_len 4) (us_cons (V_is_name 4 (by decide)) (us_cons (V_is_end_form 4 (by decide)) (us_nil))))))
  have V_is_gate : ∀ k, 5 ≤ k → UseOk P w K mg base k (.fn "is_gate" ["thing"] F_is_gate) := fun k hk => UseOk.mono hk ⟨_, fd_is_gate, O_is_gate, g_is_gate, D_is_gate.kp, FunD.bindsN D_is_gate fun _ _ _ _ _ _ us hl => match us, hl with | [_], _ => rfl⟩
  have O_is_signal := sound_def (P := P) (w := w) (mg := mg) (base := base) (k := 4) D_is_signal sc_is_signal c_is_signal (us_cons (U_isinstance 4) (us_cons (U_tuple 4) (us_cons (U_len 4) (us_cons (V_is_name 4 (by decide)) (us_cons (V_is_end_form 4 (by decide)) (us_cons (U_all 4) (us_cons (V_is_step_form 4 (by decide)) (us_nil))))))))
  have V_is_signal : ∀ k, 5 ≤ k → UseOk P w K mg base k (.fn "is_signal" ["thing"] F_is_signal) := fun k hk => UseOk.mono hk ⟨_, fd_is_signal, O_is_signal, g_is_signal, D_is_signal.kp, FunD.bindsN D_is_signal fun _ _ _ _ _ _ us hl => match us, hl with | [_], _ => rfl⟩
  have O_is_plan_value := sound_def (P := P) (w := w) (mg := mg) (base := base) (k := 5) D_is_plan_value sc_is_plan_value c_is_plan_value (us_cons (U_isinstance 5) (us_cons (U_tuple 5) (us_cons (U_len 5) (us_cons (U_all 5) (us_cons (V_is_stretch 5 (by decide)) (us_cons (V_is_joint 5 (by decide)) (us_cons (V_is_gate 5 (by decide)) (us_cons (V_is_signal 5 (by decide)) (us_nil)))))))))
  have V_is_plan_value : ∀ k, 6 ≤ k → UseOk P w K mg base k (.fn "is_plan_value" ["thing"] F_is_plan_value) := fun k hk => UseOk.mono hk ⟨_, fd_is_plan_value, O_is_plan_value, g_is_plan_value, D_is_plan_value.kp, FunD.bindsN D_is_plan_value fun _ _ _ _ _ _ us hl => match us, hl with | [_], _ => rfl⟩
  have O_need_plan := sound_def (P := P) (w := w) (mg := mg) (base := base) (k := 6) D_need_plan sc_need_plan c_need_plan (us_cons (V_is_plan_value 6 (by decide)) (us_nil))
  have V_need_plan : ∀ k, 7 ≤ k → UseOk P w K mg base k (.fn "need_plan" ["thing"] F_need_plan) := fun k hk => UseOk.mono hk ⟨_, fd_need_plan, O_need_plan, g_need_plan, D_need_plan.kp, FunD.bindsN D_need_plan fun _ _ _ _ _ _ us hl => match us, hl with | [_], _ => rfl⟩
  have O_end_text := sound_def (P := P) (w := w) (mg := mg) (base := base) (k := 1) D_end_text sc_end_text c_end_text (us_nil)
  have V_end_text : ∀ k, 2 ≤ k → UseOk P w K mg base k (.fn "end_text" ["end"] F_end_text) := fun k hk => UseOk.mono hk ⟨_, fd_end_text, O_end_text, g_end_text, D_end_text.kp, FunD.bindsN D_end_text fun _ _ _ _ _ _ us hl => match us, hl with | [_], _ => rfl⟩
  have O_plan_text := sound_def (P := P) (w := w) (mg := mg) (base := base) (k := 7) D_plan_text sc_plan_text c_plan_text (us_cons (V_need_plan 7 (by decide)) (us_cons (U_STRETCH 7) (us_cons (U_JOIN 7) (us_cons (V_end_text 7 (by decide)) (us_cons (U_GATE 7) (us_cons (U_OVER 7) (us_cons (U_SIGNAL 7) (us_nil))))))))
  have V_plan_text : ∀ k, 8 ≤ k → UseOk P w K mg base k (.fn "plan_text" ["plan"] F_plan_text) := fun k hk => UseOk.mono hk ⟨_, fd_plan_text, O_plan_text, g_plan_text, D_plan_text.kp, FunD.bindsN D_plan_text fun _ _ _ _ _ _ us hl => match us, hl with | [_], _ => rfl⟩
  have W_plan_text_plan : ∀ k, 8 ≤ k → UseOk P w K mg base k (.kw "plan_text" ["plan"] [0] F_plan_text) := fun k hk => UseOk.mono hk ⟨_, fd_plan_text, ["plan"], O_plan_text, g_plan_text, D_plan_text.kp, rfl, by decide, fun s ws _ hl => Cl.bindsK D_plan_text (fun _ _ _ _ _ _ ws hl => match ws, hl with | [_], _ => rfl) s ws hl⟩
  have O__law_deck := sound_def (P := P) (w := w) (mg := mg) (base := base) (k := 1) D__law_deck sc__law_deck c__law_deck (us_cons (U_int 1) (us_cons (U_list 1) (us_nil)))
  have V__law_deck : ∀ k, 2 ≤ k → UseOk P w K mg base k (.fn "_law_deck" ["script"] F__law_deck) := fun k hk => UseOk.mono hk ⟨_, fd__law_deck, O__law_deck, g__law_deck, D__law_deck.kp, FunD.bindsN D__law_deck fun _ _ _ _ _ _ us hl => match us, hl with | [_], _ => rfl⟩
  have O__law_draw := sound_def (P := P) (w := w) (mg := mg) (base := base) (k := 1) D__law_draw sc__law_draw c__law_draw (us_cons (U_max 1) (us_cons (U_int 1) (us_nil)))
  have V__law_draw : ∀ k, 2 ≤ k → UseOk P w K mg base k (.fn "_law_draw" ["deck", "many"] F__law_draw) := fun k hk => UseOk.mono hk ⟨_, fd__law_draw, O__law_draw, g__law_draw, D__law_draw.kp, FunD.bindsN D__law_draw fun _ _ _ _ _ _ us hl => match us, hl with | [_, _], _ => rfl⟩
  have O__law_pick := sound_def (P := P) (w := w) (mg := mg) (base := base) (k := 2) D__law_pick sc__law_pick c__law_pick (us_cons (V__law_draw 2 (by decide)) (us_cons (U_len 2) (us_nil)))
  have V__law_pick : ∀ k, 3 ≤ k → UseOk P w K mg base k (.fn "_law_pick" ["deck", "some"] F__law_pick) := fun k hk => UseOk.mono hk ⟨_, fd__law_pick, O__law_pick, g__law_pick, D__law_pick.kp, FunD.bindsN D__law_pick fun _ _ _ _ _ _ us hl => match us, hl with | [_, _], _ => rfl⟩
  have O__law_name := sound_def (P := P) (w := w) (mg := mg) (base := base) (k := 3) D__law_name sc__law_name c__law_name (us_cons (V__law_draw 3 (by decide)) (us_cons (V__law_pick 3 (by decide)) (us_cons (U_range 3) (us_cons (U_str 3) (us_nil)))))
  have V__law_name : ∀ k, 4 ≤ k → UseOk P w K mg base k (.fn "_law_name" ["deck", "used"] F__law_name) := fun k hk => UseOk.mono hk ⟨_, fd__law_name, O__law_name, g__law_name, D__law_name.kp, FunD.bindsN D__law_name fun _ _ _ _ _ _ us hl => match us, hl with | [_, _], _ => rfl⟩
  have O__law_joints := sound_def (P := P) (w := w) (mg := mg) (base := base) (k := 3) D__law_joints sc__law_joints c__law_joints (us_cons (U_range 3) (us_cons (V__law_draw 3 (by decide)) (us_cons (V__law_pick 3 (by decide)) (us_nil))))
  have V__law_joints : ∀ k, 4 ≤ k → UseOk P w K mg base k (.fn "_law_joints" ["deck", "free", "joined"] F__law_joints) := fun k hk => UseOk.mono hk ⟨_, fd__law_joints, O__law_joints, g__law_joints, D__law_joints.kp, FunD.bindsN D__law_joints fun _ _ _ _ _ _ us hl => match us, hl with | [_, _, _], _ => rfl⟩
  have O__law_over := sound_def (P := P) (w := w) (mg := mg) (base := base) (k := 2) D__law_over sc__law_over c__law_over (us_cons (V__law_draw 2 (by decide)) (us_nil))
  have V__law_over : ∀ k, 3 ≤ k → UseOk P w K mg base k (.fn "_law_over" ["deck", "kinds", "end"] F__law_over) := fun k hk => UseOk.mono hk ⟨_, fd__law_over, O__law_over, g__law_over, D__law_over.kp, FunD.bindsN D__law_over fun _ _ _ _ _ _ us hl => match us, hl with | [_, _, _], _ => rfl⟩
  have O__law_checked := sound_def (P := P) (w := w) (mg := mg) (base := base) (k := 4) D__law_checked sc__law_checked c__law_checked (us_cons (U_range 4) (us_cons (V__law_draw 4 (by decide)) (us_cons (V__law_pick 4 (by decide)) (us_cons (V__law_name 4 (by decide)) (us_cons (V__law_joints 4 (by decide)) (us_cons (U_len 4) (us_cons (V__law_over 4 (by decide)) (us_cons (U_tuple 4) (us_nil)))))))))
  have V__law_checked : ∀ k, 5 ≤ k → UseOk P w K mg base k (.fn "_law_checked" ["deck", "used", "most"] F__law_checked) := fun k hk => UseOk.mono hk ⟨_, fd__law_checked, O__law_checked, g__law_checked, D__law_checked.kp, FunD.bindsN D__law_checked fun _ _ _ _ _ _ us hl => match us, hl with | [_, _, _], _ => rfl⟩
  have O__law_free := sound_def (P := P) (w := w) (mg := mg) (base := base) (k := 4) D__law_free sc__law_free c__law_free (us_cons (U_range 4) (us_cons (V__law_draw 4 (by decide)) (us_cons (V__law_name 4 (by decide)) (us_cons (V__law_pick 4 (by decide)) (us_cons (U_tuple 4) (us_nil))))))
  have V__law_free : ∀ k, 5 ≤ k → UseOk P w K mg base k (.fn "_law_free" ["deck"] F__law_free) := fun k hk => UseOk.mono hk ⟨_, fd__law_free, O__law_free, g__law_free, D__law_free.kp, FunD.bindsN D__law_free fun _ _ _ _ _ _ us hl => match us, hl with | [_], _ => rfl⟩
  have O__law_lines := sound_def (P := P) (w := w) (mg := mg) (base := base) (k := 1) D__law_lines sc__law_lines c__law_lines (us_nil)
  have V__law_lines : ∀ k, 2 ≤ k → UseOk P w K mg base k (.fn "_law_lines" ["plan"] F__law_lines) := fun k hk => UseOk.mono hk ⟨_, fd__law_lines, O__law_lines, g__law_lines, D__law_lines.kp, FunD.bindsN D__law_lines fun _ _ _ _ _ _ us hl => match us, hl with | [_], _ => rfl⟩
  have O__law_shuffled := sound_def (P := P) (w := w) (mg := mg) (base := base) (k := 2) D__law_shuffled sc__law_shuffled c__law_shuffled (us_cons (U_list 2) (us_cons (U_range 2) (us_cons (U_len 2) (us_cons (V__law_draw 2 (by decide)) (us_cons (U_tuple 2) (us_nil))))))
  have V__law_shuffled : ∀ k, 3 ≤ k → UseOk P w K mg base k (.fn "_law_shuffled" ["deck", "some"] F__law_shuffled) := fun k hk => UseOk.mono hk ⟨_, fd__law_shuffled, O__law_shuffled, g__law_shuffled, D__law_shuffled.kp, FunD.bindsN D__law_shuffled fun _ _ _ _ _ _ us hl => match us, hl with | [_, _], _ => rfl⟩
  have O__law_is_written := sound_def (P := P) (w := w) (mg := mg) (base := base) (k := 8) D__law_is_written sc__law_is_written c__law_is_written (us_cons (V__law_lines 8 (by decide)) (us_cons (V_plan_text 8 (by decide)) (us_cons (U_isinstance 8) (us_cons (U_str 8) (us_cons (W_plan_text_plan 8 (by decide)) (us_nil))))))
  have V__law_is_written : ∀ k, 9 ≤ k → UseOk P w K mg base k (.fn "_law_is_written" ["plan"] F__law_is_written) := fun k hk => UseOk.mono hk ⟨_, fd__law_is_written, O__law_is_written, g__law_is_written, D__law_is_written.kp, FunD.bindsN D__law_is_written fun _ _ _ _ _ _ us hl => match us, hl with | [_], _ => rfl⟩
  have O_law := sound_def (P := P) (w := w) (mg := mg) (base := base) (k := 9) D_law sc_law c_law (us_cons (V__law_deck 9 (by decide)) (us_cons (V_plan_text 9 (by decide)) (us_cons (V__law_free 9 (by decide)) (us_cons (V__law_checked 9 (by decide)) (us_cons (V__law_is_written 9 (by decide)) (us_cons (U_range 9) (us_cons (U_tuple 9) (us_cons (V__law_shuffled 9 (by decide)) (us_cons (U_enumerate 9) (us_nil))))))))))
  exact O_law
end K02
open PySem PySem.W PySem.Calls PyProof.Rows
set_option maxRecDepth 100000 in
set_option maxHeartbeats 0 in
theorem K02_holds_of (hF : ∀ is : List Int, is.length ≤ 63 → ∃ S, K02.F_law [.scr (is.map .int)] [] = .ok (.bl true) S) : PySem.Challenge.rw_clearline_k02_texts_of_plans.Holds := by
  w_on; o_law
  refine HandSHeadRun.head_any (r := OpenLaw.row PySem.Challenge.rw_clearline_k02_texts_of_plans) (q := view K02.R.prog [39]) (H := K02.hk) (ob := K02.ob) (M := 1500) (loose := K02.loose) (d := HandSHeadRun.topDef K02.R.prog 39) (kwd := []) K02.ob_eq
    (by kernel_rfl) (fun z => by kernel_rfl) K02.run (by kernel_rfl) (by kernel_rfl) (by kernel_rfl) (by rfl) (by first | assumption | decide +kernel) (by decide +kernel) ⟨rfl, rfl, rfl, rfl, rfl, by decide +kernel⟩ ?hw ?hc
  case hw => w_witness2
  case hc =>
    refine Cl.walk_cl (l := PySem.Challenge.rw_clearline_k02_texts_of_plans) (n := 63) (k := 10) (x := "script") rfl (by decide) (by kernel_rfl) ⟨rfl, by decide, by decide⟩ fun w mg fa h Y G hm => ?_
    obtain ⟨K, KX, c⟩ := Y
    have hm2 : mg ("law" : PySem.Str) = some (.ref fa) := by
      have e : (HandSHeadRun.topDef K02.R.prog 39).name = ("law" : PySem.Str) := by kernel_rfl
      rw [← e]
      exact hm
    obtain ⟨fd, hb, hO⟩ := K02.facts (P := PySem.Challenge.rw_clearline_k02_texts_of_plans.prog) (w := w) KX G hm2 c
    exact ⟨K, fd, _, KX, hb, fun H a is hl hH hS => Cl.sp_law hH hS (hF is hl), hO⟩

set_option linter.all false
theorem PySem.Challenge.cw_clearline_k02_texts_of_plans_holds : PySem.Challenge.rw_clearline_k02_texts_of_plans.Holds :=
  K02_holds_of K02.law_ok
