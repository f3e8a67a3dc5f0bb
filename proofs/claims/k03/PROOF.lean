import PyProof.Rows.All
import Wide.All
import OpenK.AllK
import Wide.FinOn
import HandS.ForMost
import HandS.Flow
import HandS.TupAny
import HandS.TupMul
import HandS.Wide
import HandS.IsInst
import HandS.Style
import HandS.Rev
import PyProof.Rows.IntBool
import HandS.WrittenGet
import HandS.HeadHook3
import HandS.NoneIn
import HandS.Zip
import KE.KUnpackStar
import KE.GoesMore
import HandS.SetBool
import HandS.SetFor
import PyProof.Rows.SortShellAny
import KE.KDictZip
import HandS.Strs
import HandS.Deep
import HandS.ReCall
import HandS.Star
import PyProof.RulesMatch
import HandS.More
import HandS.Ends
import PyProof.StrLawsRepr
import PyProof.Rows.StrCase
import PyProof.Rows.ReprOcc
import PySem.Challenge.RW_ringfences_k03_variables_and_accesses
set_option Elab.async false
section
set_option linter.all false
set_option maxRecDepth 100000
/-! Px1: values as trees, a store of the objects that change, a small syntax, and what it reckons. -/
namespace Px
open PySem

/-- a value: trees; loc: an object of the store -/
inductive T where
  | non | bl (b : Bool) | int (i : Int) | str (x : Str)
  | tup (xs : List T) | vl (xs : List T) | vd (ks vs : List T) | scr (xs : List T)
  | loc (l : Nat) | ty (n : String) | gl (x : Str)

/-- an object of the store -/
inductive Ob where
  | lst (xs : List T) | dct (ks vs : List T) | ins (c : Str) (fs : List (Str × T))
abbrev Sto := List Ob
abbrev Env := List (Option T)

inductive R (α : Type) where
  | ok (a : α) (S : Sto)
  | exc (c : Str) (fs : List (Str × T)) (S : Sto)
  | bad
namespace R
def bind {α β : Type} : R α → (α → Sto → R β) → R β
  | .ok a S, f => f a S
  | .exc c fs S, _ => .exc c fs S
  | .bad, _ => .bad
@[simp] theorem bind_ok {α β : Type} (a : α) (S : Sto) (f : α → Sto → R β) : (R.ok a S).bind f = f a S := rfl
@[simp] theorem bind_bad {α β : Type} (f : α → Sto → R β) : (R.bad : R α).bind f = .bad := rfl
@[simp] theorem bind_exc {α β : Type} (c fs S) (f : α → Sto → R β) : (R.exc c fs S : R α).bind f = .exc c fs S := rfl
theorem bind_assoc {α β γ : Type} (r : R α) (f : α → Sto → R β) (g : β → Sto → R γ) : (r.bind f).bind g = r.bind fun a S => (f a S).bind g := by
  cases r <;> rfl
def opt {α : Type} (o : Option α) (S : Sto) : R α := match o with
  | some a => .ok a S
  | none => .bad
@[simp] theorem opt_some {α : Type} (a : α) (S : Sto) : R.opt (some a) S = .ok a S := rfl
@[simp] theorem opt_none {α : Type} (S : Sto) : (R.opt none S : R α) = .bad := rfl
end R

mutual
/-- no object of the store from n on is named -/
def T.bel (n : Nat) : T → Bool
  | .tup xs => T.belL n xs
  | .vl xs => T.belL n xs
  | .vd ks vs => T.belL n ks && T.belL n vs
  | .scr xs => T.belL n xs
  | .loc l => decide (l < n)
  | _ => true
def T.belL (n : Nat) : List T → Bool
  | [] => true
  | x :: xs => T.bel n x && T.belL n xs
end
def Ob.bel (n : Nat) : Ob → Bool
  | .lst xs => T.belL n xs
  | .dct ks vs => T.belL n ks && T.belL n vs
  | .ins _ fs => T.belL n (fs.map (·.2))

mutual
/-- the data that a tree is (an object of the store: none) -/
def T.dat : T → PyData
  | .non => .none
  | .bl b => .bool b
  | .int i => .int i
  | .str x => .str x
  | .tup xs => .tuple (T.datL xs)
  | .vl xs => .list (T.datL xs)
  | .vd ks vs => .dict ((T.datL ks).zip (T.datL vs))
  | _ => .none
def T.datL : List T → List PyData
  | [] => []
  | x :: xs => T.dat x :: T.datL xs
end
mutual
/-- data alone, no dict within -/
def T.flat : T → Bool
  | .non | .bl _ | .int _ => true
  | .str x => x.cps.all (· < 0x110000)
  | .tup xs => T.flatL xs
  | .vl xs => T.flatL xs
  | _ => false
def T.flatL : List T → Bool
  | [] => true
  | x :: xs => T.flat x && T.flatL xs
end
mutual
/-- data alone -/
def T.pure : T → Bool
  | .non | .bl _ | .int _ | .str _ => true
  | .tup xs => T.pureL xs
  | .vl xs => T.pureL xs
  | .vd ks vs => T.pureL ks && T.pureL vs
  | _ => false
def T.pureL : List T → Bool
  | [] => true
  | x :: xs => T.pure x && T.pureL xs
end

/-- the most items -/
def lim : Nat := 16777216

/-- what is seen of a value: a list of the store as it stands -/
def vw (S : Sto) : T → T
  | .loc l => match S[l]? with
    | some (.lst xs) => .vl xs
    | _ => .loc l
  | t => t

def gd {α : Type} (b : Bool) (a : α) : Option α := if b then some a else none
@[simp] theorem gd_true {α : Type} (a : α) : gd true a = some a := rfl
@[simp] theorem gd_false {α : Type} (a : α) : gd false a = none := rfl

theorem gd_some {α : Type} {b : Bool} {a c : α} (h : gd b a = some c) : b = true ∧ a = c := by
  cases b with
  | false => cases h
  | true => cases h; exact ⟨rfl, rfl⟩

def tru : T → Option Bool
  | .non => some false
  | .bl b => some b
  | .int i => some (i != 0)
  | .str x => gd (decide (x.length ≤ lim)) (x.length != 0)
  | .tup xs => some (!xs.isEmpty)
  | .vl xs => some (!xs.isEmpty)
  | _ => none

inductive BOp where | add | sub | mul | fdiv | mod | pow | band | bor | shl | shr
inductive COp where | eq | ne | lt | le | gt | ge | in_ | nin | is_ | isn

/-- the bits of an int, no less -/
def bits (i : Int) : Nat := i.natAbs.log2 + 1

def binT : BOp → T → T → Option T
  | .add, .int i, .int j => some (.int (i + j))
  | .add, .bl b, .int j => some (.int ((if b = true then (1 : Int) else 0) + j))
  | .add, .int i, .bl b => some (.int (i + if b = true then (1 : Int) else 0))
  | .sub, .bl b, .int j => some (.int ((if b = true then (1 : Int) else 0) - j))
  | .sub, .int i, .int j => some (.int (i - j))
  | .mul, .int i, .int j => gd (decide (bits i + bits j < 900000)) (.int (i * j))
  | .mod, .int i, .int j => gd (decide (0 < j)) (.int (i % j))
  | .fdiv, .int i, .int j => gd (decide (0 < j) && decide (bits j < 9000)) (.int (i / j))
  | .pow, .int i, .int j => gd (decide (0 ≤ j) && decide (bits i * j.toNat < 900000)) (.int (i ^ j.toNat))
  | .add, .str x, .str y => gd (decide (x.length + y.length ≤ lim)) (.str (x ++ y))
  | .add, .tup xs, .tup ys => gd (decide (xs.length + ys.length ≤ lim)) (.tup (xs ++ ys))
  | .add, .vl xs, .vl ys => gd (decide (xs.length + ys.length ≤ lim)) (.vl (xs ++ ys))
  | .mul, .tup xs, .int k => gd (decide (0 ≤ k) && decide (k ≤ 1000) && decide (xs.length ≤ 1000) && !xs.isEmpty) (.tup (List.replicate k.toNat xs).flatten)
  | .mul, .vl xs, .int k => gd (decide (0 ≤ k) && decide (k ≤ 1000) && decide (xs.length ≤ 1000)) (.vl (List.replicate k.toNat xs).flatten)
  | _, _, _ => none

/-- == of data -/
def eqT (a b : T) : Option Bool := gd (a.flat && b.flat && decide (min a.dat.depth b.dat.depth ≤ 60)) (a.dat.eqv b.dat)
/-- x in the items -/
def inT (x : T) (ys : List T) : Option Bool := gd (x.flat && T.flatL ys && decide (x.dat.depth ≤ 60)) (ys.any fun y => y.dat.eqv x.dat)
/-- a tuple or list beside an empty one, or data -/
def eqv2 : T → T → Option Bool
  | .tup xs, .tup [] => some xs.isEmpty
  | .vl xs, .vl [] => some xs.isEmpty
  | .str x, .str y => some (decide (x = y))
  | a, b => eqT a b
def isT : T → T → Option Bool
  | .non, .non => some true
  | .loc _, .non => some false
  | .bl _, .non => some false
  | .int _, .non => some false
  | .str _, .non => some false
  | .tup _, .non => some false
  | .vl _, .non => some false
  | .vd _ _, .non => some false
  | .bl b, .bl c => some (decide (b = c))
  | _, _ => none
def ltS (x y : Str) : Bool := decide (x.cps.toList < y.cps.toList)

def inY (a b : T) : Option Bool := match b with
  | .tup ys => inT a ys
  | .vl ys => inT a ys
  | .str y => (match a with
    | .str x => some (!(Builtin.Str.occurrences y x 0 y.length 1).isEmpty)
    | _ => none)
  | _ => none

def cmpT : COp → T → T → Option Bool
  | .eq, a, b => eqv2 a b
  | .ne, a, b => (eqv2 a b).map (!·)
  | .lt, .int i, .int j => some (decide (i < j))
  | .le, .int i, .int j => some (decide (i ≤ j))
  | .gt, .int i, .int j => some (decide (j < i))
  | .ge, .int i, .int j => some (decide (j ≤ i))
  | .lt, .str x, .str y => some (ltS x y)
  | .in_, a, b => inY a b
  | .nin, a, b => (inY a b).map (!·)
  | .is_, a, b => isT a b
  | .isn, a, b => (isT a b).map (!·)
  | _, _, _ => none

def unN : T → Option T
  | .int i => some (.int (-i))
  | _ => none

def idxT : T → T → Option T
  | .tup xs, .int i => L2.atI xs i
  | .vl xs, .int i => L2.atI xs i
  | .scr xs, .int i => L2.atI xs i
  | .str x, .int i => gd (decide (x.length ≤ lim)) () |>.bind fun _ => (L2.atI x.cps.toList i).map fun c => .str ⟨#[c]⟩
  | _, _ => none
def cut {α : Type} (xs : List α) (lo hi : Option Int) : List α := (xs.drop (HT.sIx xs.length 0 lo)).take (HT.sIx xs.length xs.length hi - HT.sIx xs.length 0 lo)
def slcT : T → Option Int → Option Int → Option T
  | .tup xs, lo, hi => some (.tup (cut xs lo hi))
  | .vl xs, lo, hi => some (.vl (cut xs lo hi))
  | .str x, lo, hi => gd (decide (x.length ≤ lim)) (.str (L2.cutS x lo hi))
  | _, _, _ => none
def revT : T → Option T
  | .tup xs => some (.tup xs.reverse)
  | .vl xs => some (.vl xs.reverse)
  | _ => none

/-- the items of a list or tuple -/
def seqT : T → Option (List T)
  | .tup xs => some xs
  | .vl xs => some xs
  | _ => none
/-- numbered -/
def pairN (xs : List T) : List T := xs.zipIdx.map fun p => .tup [.int p.2, p.1]
def pairZ (xs ys : List T) : List T := (xs.zip ys).map fun p => .tup [p.1, p.2]
/-- zip of two that no one changes -/
def zipT : T → T → Option (List T)
  | .tup xs, .tup ys => some (pairZ xs ys)
  | .vl xs, .vl ys => some (pairZ xs ys)
  | _, _ => none
/-- the items of what a list or tuple is made of -/
def itemsT : T → Option (List T)
  | .tup xs => some xs
  | .vl xs => some xs
  | .str x => some (x.cps.toList.map fun c => .str ⟨#[c]⟩)
  | _ => none

def blsOf : List T → Option (List Bool)
  | [] => some []
  | .bl b :: r => (blsOf r).map (b :: ·)
  | _ => none

def tyOf : T → Option String
  | .non => some "NoneType"
  | .bl _ => some "bool"
  | .int _ => some "int"
  | .str _ => some "str"
  | .tup _ => some "tuple"
  | .vl _ => some "list"
  | .vd _ _ => some "dict"
  | _ => none
def isi (t : T) (n : String) : Option Bool := (tyOf t).bind fun m =>
  gd (["int", "bool", "str", "tuple", "list", "dict"].contains n) (m == n || (m == "bool" && n == "int"))

def minI : List T → Option Int
  | [] => none
  | [.int i] => some i
  | .int i :: r => (minI r).map fun j => if j < i then j else i
  | _ => none
def maxI : List T → Option Int
  | [] => none
  | [.int i] => some i
  | .int i :: r => (maxI r).map fun j => if j > i then j else i
  | _ => none
def sumI : List T → Option Int
  | [] => some 0
  | .int i :: r => (sumI r).map (i + ·)
  | _ => none

/-! ### sets of texts: the members in order -/
def addK {K : Type} [DecidableEq K] (l : List K) (k : K) : List K := if k ∈ l then l else l ++ [k]
def addsK {K : Type} [DecidableEq K] (l : List K) : List K → List K
  | [] => l
  | k :: ks => addsK (addK l k) ks
def insS (x : Str) : List Str → List Str
  | [] => [x]
  | y :: ys => if ltS y x then y :: insS x ys else x :: y :: ys
def sortS : List Str → List Str
  | [] => []
  | x :: xs => insS x (sortS xs)
/-- the texts, each once, ascending -/
def sortU (zs : List Str) : List Str := sortS (addsK [] zs)
def strsT : List T → Option (List Str)
  | [] => some []
  | .str x :: r => (strsT r).map (x :: ·)
  | _ => none
/-- the texts of a list or tuple, not too many -/
def strsV (t : T) : Option (List Str) := (match t with
    | .vl xs => strsT xs
    | .tup xs => strsT xs
    | _ => none).bind fun zs => gd (decide (zs.length ≤ 4000)) zs
/-- sorted(set(t)), len(set(t)) -/
def setT (b : Bool) (t : T) : Option T := (strsV t).map fun zs => if b then .vl ((sortU zs).map .str) else .int (addsK [] zs).length
/-- the pairs of two lists, new -/
def lzipT : T → T → Option T
  | .vl xs, .vl ys => gd (decide (xs.length ≤ lim)) (.vl (pairZ xs ys))
  | _, _ => none
/-- what a written table says of a text -/
def getT (z : Str) : List T → List T → T → T
  | .str x :: ks, v :: vs, d => if x = z then v else getT z ks vs d
  | _, _, d => d
/-- a function of the builtins, upon what is seen -/
def bifT (f : Str) (ts : List T) : Option T :=
  if f = "len" then (match ts with
    | [.str x] => gd (decide (x.length ≤ lim)) (.int x.length)
    | [.tup xs] => some (.int xs.length)
    | [.vl xs] => some (.int xs.length)
    | [.scr xs] => some (.int xs.length)
    | _ => none)
  else if f = "abs" then (match ts with
    | [.int i] => some (.int (if i < 0 then -i else i))
    | _ => none)
  else if f = "all" then (match ts with
    | [.vl xs] => (blsOf xs).map fun bs => .bl (bs.all id)
    | _ => none)
  else if f = "any" then (match ts with
    | [.vl xs] => (blsOf xs).map fun bs => .bl (bs.any id)
    | _ => none)
  else if f = "isinstance" then (match ts with
    | [t, .ty n] => (isi t n).map .bl
    | _ => none)
  else if f = "repr" then (match ts with
    | [t] => gd (t.pure && decide (t.dat.shown.length ≤ lim) && t.dat.showable && decide (t.dat.depth ≤ 150)) (.str t.dat.shown)
    | _ => none)
  else if f = "min" then (match ts with
    | [.int i, .int j] => some (.int (if j < i then j else i))
    | _ => none)
  else if f = "max" then (match ts with
    | [.int i, .int j] => some (.int (if j > i then j else i))
    | _ => none)
  else if f = "get" then (match ts with
    | [.tup ks, .tup vs, .str z, d] => some (getT z ks vs d)
    | _ => none)
  else none
/-- a call of a class of the builtins, upon what is seen -/
def btyT (f : String) (ts : List T) : Option T :=
  if f = "int" then (match ts with
    | [.int i] => some (.int i)
    | [.bl b] => some (.int (if b then 1 else 0))
    | _ => none)
  else if f = "tuple" then (match ts with
    | [.tup xs] => some (.tup xs)
    | [.vl xs] => some (.tup xs)
    | _ => none)
  else if f = "list" then (match ts with
    | [.tup xs] => some (.vl xs)
    | [.vl xs] => some (.vl xs)
    | _ => none)
  else if f = "str" then (match ts with
    | [.int i] => gd (decide (bits i < 1900)) (.str (Str.ofString (toString i)))
    | [.bl b] => some (.str (if b = true then Str.ofString "True" else Str.ofString "False"))
    | [.str x] => some (.str x)
    | _ => none)
  else none
/-- the first place of data -/
def ixT (xs : List T) (t : T) : Option T := (gd (t.flat && T.flatL xs && decide (t.dat.depth ≤ 60)) ()).bind fun _ => (xs.findIdx? fun y => y.dat.eqv t.dat).map fun i => .int (i : Nat)
/-- methods that change nothing, upon what is seen -/
def mthT (m : Str) (o : T) (ts : List T) : Option T :=
  if m = "upper" then (match o, ts with
    | .str x, [] => gd (decide (x.length ≤ 5592405)) (.str (Txt.upper x))
    | _, _ => none)
  else if m = "count" then (match o, ts with
    | .vl xs, [t] => gd (t.flat && T.flatL xs && decide (t.dat.depth ≤ 60)) (.int (xs.countP fun y => y.dat.eqv t.dat))
    | _, _ => none)
  else if m = "index" then (match o, ts with
    | .vl xs, [t] => ixT xs t
    | _, _ => none)
  else none
/-- methods that change a list of the store -/
def mthS (m : Str) (l : Nat) (xs : List T) (ts : List T) (S : Sto) : R T :=
  if m = "append" then (match ts with
    | [t] => if xs.length < lim then .ok .non (S.set l (.lst (xs ++ [t]))) else .bad
    | _ => .bad)
  else if m = "extend" then (match ts with
    | [t] => (match vw S t with
      | .vl ys => if xs.length + ys.length ≤ lim then .ok .non (S.set l (.lst (xs ++ ys))) else .bad
      | _ => .bad)
    | _ => .bad)
  else if m = "pop" then (match ts with
    | [.int i] => (match gd (decide (-4611686018427387904 < i) && decide (i < 4611686018427387904)) () |>.bind fun _ => L2.ixN xs.length i with
      | some k => (match xs[k]? with
        | some v => .ok v (S.set l (.lst (xs.eraseIdx k)))
        | none => .bad)
      | none => .bad)
    | _ => .bad)
  else if m = "insert" then (match ts with
    | [.int i, t] => if 0 ≤ i ∧ i < 4611686018427387904 ∧ xs.length < lim then .ok .non (S.set l (.lst (xs.take i.toNat ++ t :: xs.drop i.toNat))) else .bad
    | _ => .bad)
  else .bad

/-! ### syntax -/
inductive Tg where | nm (i : Nat) | tps (is : List Nat)
mutual
inductive Ex where
  | loc (i : Nat) | con (t : T)
  | bin (op : BOp) (a b : Ex) | neg (a : Ex) | not (a : Ex) | and (a b : Ex) | or (a b : Ex)
  | cmp (op : COp) (a b : Ex) | cmp2 (o1 o2 : COp) (a b c : Ex) | ife (c a b : Ex)
  | tup (es : Exs) | lst (es : Exs) | dic (ks : List Str) (vs : Exs) | new (e : Ex)
  | idx (a i : Ex) | slc (a : Ex) (lo hi : OEx) | rev (a : Ex)
  | call (f : Str) (es : Exs) (ks : List Str) (kes : Exs)
  | bif (f : Str) (es : Exs) | bty (f : String) (es : Exs) | mth (o : Ex) (m : Str) (es : Exs)
  | comp (own : List Nat) (g : Tg) (it : It) (cs : Exs) (elt : Ex)
  | sset (b : Bool) (e : Ex)
  | lzip (a b : Ex)
  | ssc (own : List Nat) (g : Tg) (it : It) (cs : Exs) (own2 : List Nat) (g2 : Tg) (it2 : It) (cs2 : Exs) (elt : Ex)
  | callS (f : Str) (a : Nat) (es : Exs) | cix (f : Str) (es : Exs) (x : Ex)
inductive Exs where | nil | cons (e : Ex) (es : Exs) | star (e : Ex) (es : Exs)
inductive OEx where | none | some (e : Ex)
inductive It where | plain (e : Ex) | range (es : Exs) | enum (e : Ex) | zip (a b : Ex)
end
mutual
inductive Sm where
  | asg (g : Tg) (e : Ex) | par (is : List Nat) (es : Exs) | set (o i e : Ex) | star (i j : Nat) (e : Ex)
  | exp (e : Ex) | ret (e : Ex) | retN | ife (c : Ex) (a b : Sms) | whl (c : Ex) (b : Sms) | for (g : Tg) (it : It) (b : Sms)
  | brk | cnt | pss | nev
  | stars (is : List Nat) (j : Nat) (e : Ex) | mtc (i : Nat) (cs : Mcs)
inductive Sms where | nil | cons (s : Sm) (ss : Sms)
inductive Mcs where | nil | cons (w : Option Str) (b : Sms) (cs : Mcs)
end

/-! ### what it reckons -/
inductive Fl where | nx | rt (v : T) | bk | ct
structure Cfg where
  fc : Str → List T → List (Str × T) → Sto → R T
  W : Nat

def wipe {α : Type} (ρ : List (Option α)) : List Nat → List (Option α)
  | [] => ρ
  | v :: vs => (wipe ρ vs).set v none
def asgs : List Nat → List T → Env → Option Env
  | [], [], ρ => some ρ
  | i :: is, v :: vs, ρ => asgs is vs (ρ.set i (some v))
  | _, _, _ => none
/-- the places that a target stores -/
def Tg.ix : Tg → List Nat
  | .nm i => [i]
  | .tps is => is
def tgt (g : Tg) (v : T) (ρ : Env) (S : Sto) : Option Env := match g with
  | .nm i => some (ρ.set i (some v))
  | .tps is => (match vw S v with
    | .tup xs => asgs is xs ρ
    | .vl xs => asgs is xs ρ
    | _ => none)
/-- what a range is -/
def rng (lo hi : Int) : List T := (List.range (hi - lo).toNat).map fun (k : Nat) => T.int (lo + (k : Int))
def rangeT : List T → Option (List T)
  | [.int n] => gd (decide (-4611686018427387904 ≤ n) && decide (n < 4611686018427387904)) (rng 0 n)
  | [.int a, .int b] => gd (decide (-4611686018427387904 ≤ a) && decide (a < 4611686018427387904) && decide (-4611686018427387904 ≤ b) && decide (b < 4611686018427387904)) (rng a b)
  | _ => none
def locOf : T → Option Nat
  | .loc l => some l
  | _ => none
/-- a list that is walked stays -/
def stays (l : Option Nat) (S S' : Sto) : Prop := match l with
  | some l => S'[l]? = S[l]?
  | none => True

open Classical in
/-- for: the rest of the items -/
noncomputable def forL (l : Option Nat) (S0 : Sto) (body : T → Env → Sto → R (Fl × Env)) : List T → Env → Sto → R (Fl × Env)
  | [], ρ, S => .ok (.nx, ρ) S
  | x :: xs, ρ, S => (body x ρ S).bind fun r S1 => match r.1 with
    | .nx => if stays l S0 S1 then forL l S0 body xs r.2 S1 else .bad
    | .ct => if stays l S0 S1 then forL l S0 body xs r.2 S1 else .bad
    | .bk => .ok (.nx, r.2) S1
    | .rt v => .ok (.rt v, r.2) S1
open Classical in
noncomputable def compL (l : Option Nat) (S0 : Sto) (body : T → Sto → R (Option T)) : List T → List T → Sto → R (List T)
  | [], acc, S => if acc.length ≤ lim then .ok acc S else .bad
  | x :: xs, acc, S => (body x S).bind fun r S1 => if stays l S0 S1 then compL l S0 body xs (match r with | some v => acc ++ [v] | none => acc) S1 else .bad
open Classical in
/-- the inner clause: the texts so far, and those of this walk -/
noncomputable def compS (l : Option Nat) (S0 : Sto) (body : T → Sto → R (Option Str)) : List T → List Str → Sto → R (List Str)
  | [], acc, S => .ok acc S
  | x :: xs, acc, S => (body x S).bind fun r S1 => if stays l S0 S1 ∧ acc.length < 4000 then compS l S0 body xs (match r with | some v => acc ++ [v] | none => acc) S1 else .bad
open Classical in
noncomputable def compS2 (l : Option Nat) (S0 : Sto) (body : T → List Str → Sto → R (List Str)) : List T → List Str → Sto → R (List Str)
  | [], acc, S => .ok acc S
  | x :: xs, acc, S => (body x acc S).bind fun acc' S1 => if stays l S0 S1 then compS2 l S0 body xs acc' S1 else .bad
/-- the text that an element is -/
def strR (t : T) (S : Sto) : R (Option Str) := match t with
  | .str z => .ok (some z) S
  | _ => .bad
def body1 (g1 : Tg) (vs1 : List Nat) (mc1 : Env → Sto → R Bool) (me : Env → Sto → R T) (ρ1 : Env) (y : T) (S : Sto) : R (Option Str) :=
  (R.opt (tgt g1 y (wipe ρ1 vs1) S) S).bind fun ρ2 S => (mc1 ρ2 S).bind fun k S => if k then (me ρ2 S).bind strR else .ok none S
noncomputable def body0 (g : Tg) (vs : List Nat) (mc : Env → Sto → R Bool) (mi1 : Env → Sto → R (List T × Option Nat)) (g1 : Tg) (vs1 : List Nat) (mc1 : Env → Sto → R Bool) (me : Env → Sto → R T) (ρ : Env) (x : T) (acc : List Str) (S : Sto) : R (List Str) :=
  (R.opt (tgt g x (wipe ρ vs) S) S).bind fun ρ1 S => (mc ρ1 S).bind fun k S => if k then (mi1 ρ1 S).bind fun yl S => compS yl.2 S (body1 g1 vs1 mc1 me ρ1) yl.1 acc S else .ok acc S
def whlN (c : Env → Sto → R Bool) (b : Env → Sto → R (Fl × Env)) : Nat → Env → Sto → R (Fl × Env)
  | 0, _, _ => .bad
  | n + 1, ρ, S => (c ρ S).bind fun k S1 => if k then (b ρ S1).bind fun r S2 => (match r.1 with
      | .nx => whlN c b n r.2 S2
      | .ct => whlN c b n r.2 S2
      | .bk => .ok (.nx, r.2) S2
      | .rt v => .ok (.rt v, r.2) S2) else .ok (.nx, ρ) S1

def truR (v : T) (S : Sto) : R Bool := R.opt (tru (vw S v)) S

mutual
noncomputable def ev (C : Cfg) : Ex → Env → Sto → R T
  | .loc i, ρ, S => (match ρ[i]? with
    | some (some t) => .ok t S
    | _ => .bad)
  | .con t, _, S => .ok t S
  | .bin op a b, ρ, S => (ev C a ρ S).bind fun x S => (ev C b ρ S).bind fun y S => R.opt (binT op (vw S x) (vw S y)) S
  | .neg a, ρ, S => (ev C a ρ S).bind fun x S => R.opt (unN x) S
  | .not a, ρ, S => (ev C a ρ S).bind fun x S => (truR x S).bind fun k S => .ok (.bl (!k)) S
  | .and a b, ρ, S => (ev C a ρ S).bind fun x S => (truR x S).bind fun k S => if k then ev C b ρ S else .ok x S
  | .or a b, ρ, S => (ev C a ρ S).bind fun x S => (truR x S).bind fun k S => if k then .ok x S else ev C b ρ S
  | .cmp op a b, ρ, S => (ev C a ρ S).bind fun x S => (ev C b ρ S).bind fun y S => (R.opt (cmpT op (vw S x) (vw S y)) S).bind fun k S => .ok (.bl k) S
  | .cmp2 o1 o2 a b c, ρ, S => (ev C a ρ S).bind fun x S => (ev C b ρ S).bind fun y S => (R.opt (cmpT o1 (vw S x) (vw S y)) S).bind fun k S =>
      if k then (ev C c ρ S).bind fun z S => (R.opt (cmpT o2 (vw S y) (vw S z)) S).bind fun k S => .ok (.bl k) S else .ok (.bl false) S
  | .ife c a b, ρ, S => (ev C c ρ S).bind fun x S => (truR x S).bind fun k S => if k then ev C a ρ S else ev C b ρ S
  | .tup es, ρ, S => (evs C es ρ S).bind fun xs S => R.opt (gd (decide (xs.length ≤ lim)) (.tup xs)) S
  | .lst es, ρ, S => (evs C es ρ S).bind fun xs S => R.opt (gd (decide (xs.length ≤ lim)) (.vl xs)) S
  | .dic ks vs, ρ, S => (evs C vs ρ S).bind fun ys S => R.opt (gd (decide (ks.length = ys.length)) (.vd (ks.map .str) ys)) S
  | .new e, ρ, S => (ev C e ρ S).bind fun x S => (match x with
    | .vl xs => .ok (.loc S.length) (S ++ [.lst xs])
    | _ => .bad)
  | .idx a i, ρ, S => (ev C a ρ S).bind fun x S => (ev C i ρ S).bind fun y S => R.opt (idxT (vw S x) y) S
  | .slc a lo hi, ρ, S => (ev C a ρ S).bind fun x S => (evo C lo ρ S).bind fun l S => (evo C hi ρ S).bind fun h S => R.opt (slcT (vw S x) l h) S
  | .rev a, ρ, S => (ev C a ρ S).bind fun x S => R.opt (revT (vw S x)) S
  | .call f es ks kes, ρ, S => (evs C es ρ S).bind fun xs S => (evs C kes ρ S).bind fun ys S => C.fc f xs (ks.zip ys) S
  | .bif f es, ρ, S => (evs C es ρ S).bind fun xs S => R.opt (bifT f (xs.map (vw S))) S
  | .bty f es, ρ, S => (evs C es ρ S).bind fun xs S => R.opt (btyT f (xs.map (vw S))) S
  | .mth o m es, ρ, S => (ev C o ρ S).bind fun x S => (match x with
    | .loc l => (match S[l]? with
      | some (.lst _) => (evs C es ρ S).bind fun xs S => (match S[l]? with
        | some (.lst ys) => mthS m l ys xs S
        | _ => .bad)
      | _ => .bad)
    | x => (evs C es ρ S).bind fun xs S => R.opt (mthT m x xs) S)
  | .comp own g it cs elt, ρ, S => (evi C it ρ S).bind fun xl S => (compL xl.2 S (fun x S1 => (R.opt (tgt g x (wipe ρ own) S1) S1).bind fun ρ1 S1 =>
      (evc C cs ρ1 S1).bind fun k S1 => if k then (ev C elt ρ1 S1).bind fun v S1 => .ok (some v) S1 else .ok none S1) xl.1 [] S).bind fun ys S => .ok (.vl ys) S
  | .sset b e, ρ, S => (ev C e ρ S).bind fun x S => R.opt (setT b (vw S x)) S
  | .lzip a b, ρ, S => (ev C a ρ S).bind fun x S => (ev C b ρ S).bind fun y S => R.opt (lzipT (vw S x) (vw S y)) S
  | .ssc own g it cs own2 g2 it2 cs2 elt, ρ, S => ((evi C it ρ S).bind fun xl S => compS2 xl.2 S (body0 g own (evc C cs) (evi C it2) g2 own2 (evc C cs2) (ev C elt) ρ) xl.1 [] S).bind fun zs S => R.opt (gd (decide (zs.length ≤ 4000)) (.vl ((sortU zs).map .str))) S
  | .callS f a es, ρ, S => (evs C es ρ S).bind fun xs S => if xs.length = a then C.fc f xs [] S else .bad
  | .cix f es x, ρ, S => (evs C es ρ S).bind fun xs S => (C.fc f xs [] S).bind fun v S => (ev C x ρ S).bind fun y S => (match v with
    | .tup ts => R.opt (ixT ts y) S
    | _ => .bad)
noncomputable def evs (C : Cfg) : Exs → Env → Sto → R (List T)
  | .nil, _, S => .ok [] S
  | .cons e es, ρ, S => (ev C e ρ S).bind fun x S => (evs C es ρ S).bind fun xs S => .ok (x :: xs) S
  | .star e es, ρ, S => (ev C e ρ S).bind fun x S => (R.opt (seqT (vw S x)) S).bind fun xs S => (evs C es ρ S).bind fun ys S => .ok (xs ++ ys) S
noncomputable def evo (C : Cfg) : OEx → Env → Sto → R (Option Int)
  | .none, _, S => .ok none S
  | .some e, ρ, S => (ev C e ρ S).bind fun x S => (match x with
    | .int i => .ok (some i) S
    | _ => .bad)
/-- the tests of a clause -/
noncomputable def evc (C : Cfg) : Exs → Env → Sto → R Bool
  | .nil, _, S => .ok true S
  | .cons e es, ρ, S => (ev C e ρ S).bind fun x S => (truR x S).bind fun k S => if k then evc C es ρ S else .ok false S
  | .star _ _, _, _ => .bad
/-- what is walked: its items, and the list of the store that it is -/
noncomputable def evi (C : Cfg) : It → Env → Sto → R (List T × Option Nat)
  | .plain e, ρ, S => (ev C e ρ S).bind fun x S => R.opt ((itemsT (vw S x)).map fun xs => (xs, locOf x)) S
  | .range es, ρ, S => (evs C es ρ S).bind fun xs S => R.opt ((rangeT xs).map fun ys => (ys, none)) S
  | .enum e, ρ, S => (ev C e ρ S).bind fun x S => R.opt ((seqT (vw S x)).map fun xs => (pairN xs, locOf x)) S
  | .zip a b, ρ, S => (ev C a ρ S).bind fun x S => (ev C b ρ S).bind fun y S => R.opt ((zipT x y).map fun ps => (ps, none)) S
end

mutual
noncomputable def exec (C : Cfg) : Sm → Env → Sto → R (Fl × Env)
  | .asg g e, ρ, S => (ev C e ρ S).bind fun v S => (R.opt (tgt g v ρ S) S).bind fun ρ S => .ok (.nx, ρ) S
  | .par is es, ρ, S => (evs C es ρ S).bind fun vs S => (R.opt (asgs is vs ρ) S).bind fun ρ S => .ok (.nx, ρ) S
  | .set o i e, ρ, S => (ev C e ρ S).bind fun v S => (ev C o ρ S).bind fun x S => (ev C i ρ S).bind fun y S => (match x, y with
    | .loc l, .int i => (match S[l]? with
      | some (.lst xs) => (match L2.ixN xs.length i with
        | some k => .ok (.nx, ρ) (S.set l (.lst (xs.set k v)))
        | none => .bad)
      | _ => .bad)
    | _, _ => .bad)
  | .star i j e, ρ, S => (ev C e ρ S).bind fun v S => (match v with
    | .tup (x :: xs) => if xs.length ≤ 1000000 then .ok (.nx, (ρ.set i (some x)).set j (some (.vl xs))) S else .bad
    | _ => .bad)
  | .exp e, ρ, S => (ev C e ρ S).bind fun _ S => .ok (.nx, ρ) S
  | .ret e, ρ, S => (ev C e ρ S).bind fun v S => .ok (.rt v, ρ) S
  | .retN, ρ, S => .ok (.rt .non, ρ) S
  | .ife c a b, ρ, S => (ev C c ρ S).bind fun x S => (truR x S).bind fun k S => if k then execs C a ρ S else execs C b ρ S
  | .whl c b, ρ, S => whlN (fun ρ S => (ev C c ρ S).bind truR) (execs C b) C.W ρ S
  | .for g it b, ρ, S => (evi C it ρ S).bind fun xl S => forL xl.2 S (fun x ρ S => (R.opt (tgt g x ρ S) S).bind fun ρ S => execs C b ρ S) xl.1 ρ S
  | .brk, ρ, S => .ok (.bk, ρ) S
  | .cnt, ρ, S => .ok (.ct, ρ) S
  | .pss, ρ, S => .ok (.nx, ρ) S
  | .nev, _, _ => .bad
  | .stars is j e, ρ, S => (ev C e ρ S).bind fun v S => (match v with
    | .tup xs => if is.length ≤ xs.length ∧ xs.length ≤ 1000000 then (R.opt (asgs is (xs.take is.length) ρ) S).bind fun ρ S => .ok (.nx, ρ.set j (some (.vl (xs.drop is.length)))) S else .bad
    | _ => .bad)
  | .mtc i cs, ρ, S => (match ρ[i]? with
    | some (some (.str z)) => execM C z cs ρ S
    | _ => .bad)
noncomputable def execs (C : Cfg) : Sms → Env → Sto → R (Fl × Env)
  | .nil, ρ, S => .ok (.nx, ρ) S
  | .cons s ss, ρ, S => (exec C s ρ S).bind fun r S => match r.1 with
    | .nx => execs C ss r.2 S
    | f => .ok (f, r.2) S
/-- the cases of a match upon a text -/
noncomputable def execM (C : Cfg) (z : Str) : Mcs → Env → Sto → R (Fl × Env)
  | .nil, ρ, S => .ok (.nx, ρ) S
  | .cons (some w) b cs, ρ, S => if z = w then execs C b ρ S else execM C z cs ρ S
  | .cons none b _, ρ, S => execs C b ρ S
end

/-! ### calls -/
structure Fn where
  ps : List Str
  n : Nat
  keep : Bool
  body : Sms

/-- the arguments by their parameters -/
def bindA (ps : List Str) (vs : List T) (kv : List (Str × T)) : Option (List T) :=
  if vs.length + kv.length = ps.length then (match (ps.drop vs.length).mapM fun p => kv.lookup p with
    | some r => some (vs ++ r)
    | none => none) else none

open Classical in
/-- behind a call that leaves no new object: what it made is let go -/
noncomputable def gc (S : Sto) (v : T) (S' : Sto) : R T :=
  if (∀ i, i < S.length → S'[i]? = S[i]? ∨ ∃ o, S'[i]? = some o ∧ o.bel S.length = true) ∧ S.length ≤ S'.length then
    (if v.bel S.length then .ok v (S'.take S.length) else match v with
      | .loc l => (match S'[l]? with
        | some (.lst xs) => if T.belL S.length xs then .ok (.vl xs) (S'.take S.length) else .bad
        | _ => .bad)
      | _ => .bad)
  else .bad
noncomputable def fin (keep : Bool) (S : Sto) (r : R (Fl × Env)) : R T := r.bind fun r S' => match r.1 with
  | .rt v => if keep then .ok v S' else gc S v S'
  | .nx => if keep then .ok .non S' else gc S .non S'
  | _ => .bad
noncomputable def callN (tab : Str → Option Fn) (W : Nat) : Nat → Str → List T → List (Str × T) → Sto → R T
  | 0, _, _, _, _ => .bad
  | n + 1, f, vs, kv, S => (match tab f with
    | none => .bad
    | some fn => (match bindA fn.ps vs kv with
      | none => .bad
      | some as => fin fn.keep S (execs ⟨callN tab W n, W⟩ fn.body (as.map some ++ List.replicate (fn.n - as.length) none) S)))
/-- a function's run, its arguments bound -/
noncomputable def runF (tab : Str → Option Fn) (W : Nat) (n : Nat) (fn : Fn) (as : List T) (S : Sto) : R T := match n with
  | 0 => .bad
  | n + 1 => fin fn.keep S (execs ⟨callN tab W n, W⟩ fn.body (as.map some ++ List.replicate (fn.n - as.length) none) S)
theorem callN_eq {tab : Str → Option Fn} {W n : Nat} {f : Str} {fn : Fn} {vs : List T} {kv : List (Str × T)} {S : Sto} (h : tab f = some fn) : callN tab W n f vs kv S = (match bindA fn.ps vs kv with
    | none => .bad
    | some as => runF tab W n fn as S) := by
  cases n with
  | zero =>
    unfold callN
    cases bindA fn.ps vs kv <;> rfl
  | succ n =>
    unfold callN
    rw [h]
    rfl
end Px
end
section
set_option linter.all false
set_option maxRecDepth 100000
/-! Px2: how trees lie in the abstract heap. -/
namespace Px
open PySem PySem.Spec PyProof.Rows L2

abbrev HE : Hp := fun _ => none
theorem rd_none {a : Addr} {u : HO} : ¬ Rd HE a u := by
  rintro (h | ⟨o, h⟩) <;> cases h

section
variable (K : PySem.W.Frag) (mg : Str → Option Value) (ψ : List Addr)
/-- a tuple, a list that no one changes: tracked (and no object of the store), or written -/
def TupAt (φ : List Addr) (H : Hp) (a : Addr) (vs : List V) : Prop := (Rd H a (.tup vs) ∧ a ∉ φ ∧ a ∉ ψ) ∨ SqT K HE a vs
def LstAt (φ : List Addr) (H : Hp) (a : Addr) (vs : List V) : Prop := (Rd H a (.lst vs) ∧ a ∉ φ ∧ a ∉ ψ) ∨ SqL K HE a vs
mutual
inductive Rep (φ : List Addr) (H : Hp) : V → T → Prop
  | non : Rep φ H .non .non
  | bl (b : Bool) : Rep φ H (.bl b) (.bl b)
  | int (i : Int) : Rep φ H (.int i) (.int i)
  | str (x : Str) : Rep φ H (.str x) (.str x)
  | tup {a vs ts} : TupAt K ψ φ H a vs → Reps φ H vs ts → Rep φ H (.ref a) (.tup ts)
  | vl {a vs ts} : H a = some (.lst vs) → (a ∉ φ ∧ a ∉ ψ) → Reps φ H vs ts → Rep φ H (.ref a) (.vl ts)
  | scr {a vs ts} : LstAt K ψ φ H a vs → Reps φ H vs ts → Rep φ H (.ref a) (.scr ts)
  | vd0 {a} : H a = some (.dT []) → (a ∉ φ ∧ a ∉ ψ) → Rep φ H (.ref a) (.vd [] [])
  | vd {a kvs ks vs} : H a = some (.dK kvs) → kvs ≠ [] → (a ∉ φ ∧ a ∉ ψ) → Reps φ H (kvs.map fun p => kV p.1) ks → Reps φ H (kvs.map (·.2)) vs → Rep φ H (.ref a) (.vd ks vs)
  | loc {a l} : φ[l]? = some a → Rep φ H (.ref a) (.loc l)
  | ty (n : String) : Rep φ H (.ty n) (.ty n)
  | gl {a x} : mg x = some (.ref a) → Rep φ H (.ref a) (.gl x)
inductive Reps (φ : List Addr) (H : Hp) : List V → List T → Prop
  | nil : Reps φ H [] []
  | cons {v vs t ts} : Rep φ H v t → Reps φ H vs ts → Reps φ H (v :: vs) (t :: ts)
end
inductive RepO (φ : List Addr) (H : Hp) : HO → Ob → Prop
  | lst {vs ts} : Reps K mg ψ φ H vs ts → RepO φ H (.lst vs) (.lst ts)
  | dct {kvs ks vs} : Reps K mg ψ φ H (kvs.map fun p => kV p.1) ks → Reps K mg ψ φ H (kvs.map (·.2)) vs → RepO φ H (.dK kvs) (.dct ks vs)
  | ins {C dx fs c ts} : mg c = some (.ref C) → fs.map (·.1) = ts.map (·.1) → Reps K mg ψ φ H (fs.map (·.2)) (ts.map (·.2)) → RepO φ H (.ins C dx fs) (.ins c ts)
structure RelS (φ : List Addr) (S : Sto) (H : Hp) : Prop where
  len : φ.length = S.length
  nd : φ.Nodup
  hid : ∀ a ∈ ψ, a ∉ φ ∧ ∃ o, H a = some o
  sys : ∃ o, H sysModules = some (.frz o (.ext fun _ => True))
  obj : ∀ (i : Nat) (a : Addr) (o : Ob), φ[i]? = some a → S[i]? = some o → ∃ ho, H a = some ho ∧ RepO K mg ψ φ H ho o
structure RelE (φ : List Addr) (H : Hp) (ρ : Env) (σ : L2.St) : Prop where
  len : σ.length = ρ.length
  get : ∀ (i : Nat) (t : T), ρ[i]? = some (some t) → ∃ v, σ[i]? = some (some v) ∧ Rep K mg ψ φ H v t
end

/-- what stands from one state to a later one -/
structure Ext (φ : List Addr) (H : Hp) (φ' : List Addr) (H' : Hp) : Prop where
  pre : φ <+: φ'
  keep : ∀ a o, H a = some o → a ∉ φ → H' a = some o
  new : ∀ a, a ∈ φ' → a ∉ φ → H a = none

section
variable {K : PySem.W.Frag} {mg : Str → Option Value} {ψ φ φ' φ2 : List Addr} {H H' H2 : Hp} {a : Addr} {v : V} {vs ws : List V} {t : T} {ts us : List T} {S : Sto} {ρ : Env} {σ : L2.St}

theorem Ext.refl : Ext φ H φ H := ⟨List.prefix_rfl, fun _ _ h _ => h, fun _ h n => absurd h n⟩
theorem Ext.out (e : Ext φ H φ' H') {o : HO} (h : H a = some o) (n : a ∉ φ) : a ∉ φ' := fun z => by
  have := e.new a z n
  rw [h] at this; cases this
theorem Ext.trans (e : Ext φ H φ' H') (f : Ext φ' H' φ2 H2) : Ext φ H φ2 H2 where
  pre := e.pre.trans f.pre
  keep := fun b o h n => f.keep b o (e.keep b o h n) (e.out h n)
  new := fun b hb n => by
    cases q : H b with
    | none => rfl
    | some o =>
      have q1 := e.keep b o q n
      rw [f.new b hb (e.out q n)] at q1; cases q1
/-- one new object, no object of the store -/
theorem Ext.upd {o : HO} (h : H a = none) : Ext φ H φ (upd H a o) := ⟨List.prefix_rfl, fun b u hb _ => by rw [upd_ne (ne_of_none hb h)]; exact hb, fun _ hb n => absurd hb n⟩
/-- one new object of the store -/
theorem Ext.push {o : HO} (h : H a = none) : Ext φ H (φ ++ [a]) (L2.upd H a o) := ⟨List.prefix_append _ _, fun b u hb _ => by rw [upd_ne (ne_of_none hb h)]; exact hb, fun b hb n => by
  rcases List.mem_append.mp hb with z | z
  · exact absurd z n
  · rw [List.mem_singleton.mp z]; exact h⟩
/-- an object of the store written -/
theorem Ext.write {o : HO} (h : a ∈ φ) : Ext φ H φ (L2.upd H a o) := ⟨List.prefix_rfl, fun b u hb n => by
  have ne : b ≠ a := fun z => n (by rw [z]; exact h)
  rw [upd_ne ne]; exact hb, fun _ hb n => absurd hb n⟩

theorem TupAt.sq (h : TupAt K ψ φ H a vs) : SqT K H a vs := by
  rcases h with ⟨h, _, _⟩ | h | h
  · exact .inl h
  · exact absurd h rd_none
  · exact .inr h
theorem LstAt.sq (h : LstAt K ψ φ H a vs) : SqL K H a vs := by
  rcases h with ⟨h, _, _⟩ | h | h
  · exact .inl h
  · exact absurd h rd_none
  · exact .inr h
theorem TupAt.ext (e : Ext φ H φ' H') (h : TupAt K ψ φ H a vs) : TupAt K ψ φ' H' a vs := by
  rcases h with ⟨h | ⟨o, h⟩, n, n2⟩ | h
  · exact .inl ⟨.inl (e.keep _ _ h n), e.out h n, n2⟩
  · exact .inl ⟨.inr ⟨o, e.keep _ _ h n⟩, e.out h n, n2⟩
  · exact .inr h
theorem LstAt.ext (e : Ext φ H φ' H') (h : LstAt K ψ φ H a vs) : LstAt K ψ φ' H' a vs := by
  rcases h with ⟨h | ⟨o, h⟩, n, n2⟩ | h
  · exact .inl ⟨.inl (e.keep _ _ h n), e.out h n, n2⟩
  · exact .inl ⟨.inr ⟨o, e.keep _ _ h n⟩, e.out h n, n2⟩
  · exact .inr h
theorem prefix_get {α : Type} {l l' : List α} (p : l <+: l') {i : Nat} {x : α} (h : l[i]? = some x) : l'[i]? = some x := by
  obtain ⟨r, rfl⟩ := p
  rw [List.getElem?_append_left]
  · exact h
  · exact (List.getElem?_eq_some_iff.mp h).1
mutual
theorem Rep.ext (e : Ext φ H φ' H') : ∀ {v : V} {t : T}, Rep K mg ψ φ H v t → Rep K mg ψ φ' H' v t
  | _, _, .non => .non
  | _, _, .bl b => .bl b
  | _, _, .int i => .int i
  | _, _, .str x => .str x
  | _, _, .tup h r => .tup (h.ext e) (Reps.ext e r)
  | _, _, .vl h n r => .vl (e.keep _ _ h n.1) ⟨e.out h n.1, n.2⟩ (Reps.ext e r)
  | _, _, .scr h r => .scr (h.ext e) (Reps.ext e r)
  | _, _, .vd0 h n => .vd0 (e.keep _ _ h n.1) ⟨e.out h n.1, n.2⟩
  | _, _, .vd h z n r q => .vd (e.keep _ _ h n.1) z ⟨e.out h n.1, n.2⟩ (Reps.ext e r) (Reps.ext e q)
  | _, _, .loc h => .loc (prefix_get e.pre h)
  | _, _, .ty n => .ty n
  | _, _, .gl h => .gl h
theorem Reps.ext (e : Ext φ H φ' H') : ∀ {vs : List V} {ts : List T}, Reps K mg ψ φ H vs ts → Reps K mg ψ φ' H' vs ts
  | _, _, .nil => .nil
  | _, _, .cons h r => .cons (Rep.ext e h) (Reps.ext e r)
end
theorem RepO.ext (e : Ext φ H φ' H') {ho : HO} {o : Ob} (h : RepO K mg ψ φ H ho o) : RepO K mg ψ φ' H' ho o := by
  cases h with
  | lst r => exact .lst (r.ext e)
  | dct r q => exact .dct (r.ext e) (q.ext e)
  | ins c n r => exact .ins c n (r.ext e)
theorem RelE.ext (e : Ext φ H φ' H') (h : RelE K mg ψ φ H ρ σ) : RelE K mg ψ φ' H' ρ σ := ⟨h.len, fun i t q => let ⟨v, a, b⟩ := h.get i t q; ⟨v, a, b.ext e⟩⟩

theorem Reps.length : ∀ {vs : List V} {ts : List T}, Reps K mg ψ φ H vs ts → vs.length = ts.length
  | _, _, .nil => rfl
  | _, _, .cons _ r => by rw [List.length_cons, List.length_cons, Reps.length r]
theorem Reps.get : ∀ {vs : List V} {ts : List T} {i : Nat} {t : T}, Reps K mg ψ φ H vs ts → ts[i]? = some t → ∃ v, vs[i]? = some v ∧ Rep K mg ψ φ H v t
  | _, _, _, _, .nil, h => by simp at h
  | _, _, 0, _, .cons h r, e => by
    simp only [List.getElem?_cons_zero, Option.some.injEq] at e
    subst e
    exact ⟨_, rfl, h⟩
  | _, _, i + 1, t, .cons h r, e => by
    obtain ⟨v, h1, h2⟩ := Reps.get (i := i) (t := t) r (by simpa using e)
    exact ⟨v, by simpa using h1, h2⟩
theorem Reps.append : ∀ {vs ws : List V} {ts us : List T}, Reps K mg ψ φ H vs ts → Reps K mg ψ φ H ws us → Reps K mg ψ φ H (vs ++ ws) (ts ++ us)
  | _, _, _, _, .nil, s => s
  | _, _, _, _, .cons r t, s => .cons r (Reps.append t s)
theorem Reps.take : ∀ {vs : List V} {ts : List T} (n : Nat), Reps K mg ψ φ H vs ts → Reps K mg ψ φ H (vs.take n) (ts.take n)
  | _, _, 0, _ => .nil
  | _, _, _ + 1, .nil => .nil
  | _, _, n + 1, .cons r t => .cons r (Reps.take n t)
theorem Reps.drop : ∀ {vs : List V} {ts : List T} (n : Nat), Reps K mg ψ φ H vs ts → Reps K mg ψ φ H (vs.drop n) (ts.drop n)
  | _, _, 0, r => r
  | _, _, _ + 1, .nil => .nil
  | _, _, n + 1, .cons _ t => Reps.drop n t
theorem Reps.set : ∀ {vs : List V} {ts : List T} {v : V} {t : T} (n : Nat), Rep K mg ψ φ H v t → Reps K mg ψ φ H vs ts → Reps K mg ψ φ H (vs.set n v) (ts.set n t)
  | _, _, _, _, _, _, .nil => .nil
  | _, _, _, _, 0, q, .cons r t => .cons q t
  | _, _, _, _, n + 1, q, .cons r t => .cons r (Reps.set n q t)
theorem Reps.reverse : ∀ {vs : List V} {ts : List T}, Reps K mg ψ φ H vs ts → Reps K mg ψ φ H vs.reverse ts.reverse
  | _, _, .nil => .nil
  | _, _, .cons r t => by
    rw [List.reverse_cons, List.reverse_cons]
    exact (Reps.reverse t).append (.cons r .nil)
theorem Reps.eraseIdx : ∀ {vs : List V} {ts : List T} (n : Nat), Reps K mg ψ φ H vs ts → Reps K mg ψ φ H (vs.eraseIdx n) (ts.eraseIdx n)
  | _, _, _, .nil => .nil
  | _, _, 0, .cons r t => t
  | _, _, n + 1, .cons r t => .cons r (Reps.eraseIdx n t)
theorem Reps.flatrep (n : Nat) (h : Reps K mg ψ φ H vs ts) : Reps K mg ψ φ H (List.replicate n vs).flatten (List.replicate n ts).flatten := by
  induction n with
  | zero => exact .nil
  | succ n ih =>
    rw [List.replicate_succ, List.replicate_succ, List.flatten_cons, List.flatten_cons]
    exact h.append ih
theorem Reps.split : ∀ {vs : List V} {ts us : List T}, Reps K mg ψ φ H vs (ts ++ us) → ∃ a b, vs = a ++ b ∧ Reps K mg ψ φ H a ts ∧ Reps K mg ψ φ H b us
  | vs, [], us, h => ⟨[], vs, rfl, .nil, h⟩
  | _, t :: ts, us, .cons r q => by
    obtain ⟨a, b, rfl, h1, h2⟩ := Reps.split q
    exact ⟨_ :: a, b, rfl, .cons r h1, h2⟩
/-- two readings of one thing -/
theorem tup_inj (h : Rep K mg ψ φ H (.ref a) (.tup ts)) : ∃ vs, TupAt K ψ φ H a vs ∧ Reps K mg ψ φ H vs ts := by
  cases h with
  | tup h r => exact ⟨_, h, r⟩
/-! ### the store -/
theorem RelS.lt (r : RelS K mg ψ φ S H) {l : Nat} {o : Ob} (h : S[l]? = some o) : ∃ a, φ[l]? = some a := by
  have h1 := (List.getElem?_eq_some_iff.mp h).1
  rw [← r.len] at h1
  exact ⟨φ[l], List.getElem?_eq_getElem h1⟩
theorem RelS.at (r : RelS K mg ψ φ S H) {l : Nat} {o : Ob} (h : S[l]? = some o) : ∃ a ho, φ[l]? = some a ∧ H a = some ho ∧ RepO K mg ψ φ H ho o := by
  obtain ⟨a, ha⟩ := r.lt h
  obtain ⟨ho, h1, h2⟩ := r.obj l a o ha h
  exact ⟨a, ho, ha, h1, h2⟩
theorem RelS.sysn (r : RelS K mg ψ φ S H) : sysModules ∉ φ := fun hb => by
  obtain ⟨i, hi⟩ := List.getElem?_of_mem hb
  have hl : i < S.length := by rw [← r.len]; exact (List.getElem?_eq_some_iff.mp hi).1
  obtain ⟨ho, h1, h2⟩ := r.obj i _ S[i] hi (List.getElem?_eq_getElem hl)
  obtain ⟨_, hs⟩ := r.sys
  rw [hs] at h1; cases h1; cases h2
/-- the heap changes off the store -/
theorem RelS.ext (r : RelS K mg ψ φ S H) (e : Ext φ H φ H') (k : ∀ b ∈ φ, H' b = H b) : RelS K mg ψ φ S H' := ⟨r.len, r.nd, fun b hb => ⟨(r.hid b hb).1, let ⟨o, ho⟩ := (r.hid b hb).2; ⟨o, e.keep _ _ ho (r.hid b hb).1⟩⟩, r.sys.imp fun _ hs => e.keep _ _ hs r.sysn, fun i b o hb ho => by
  obtain ⟨ho', h1, h2⟩ := r.obj i b o hb ho
  exact ⟨ho', (k b (List.mem_of_getElem? hb)).trans h1, h2.ext e⟩⟩
theorem RelS.upd {o : HO} (r : RelS K mg ψ φ S H) (h : H a = none) : RelS K mg ψ φ S (L2.upd H a o) := by
  refine r.ext (Ext.upd h) fun b hb => upd_ne fun z => ?_
  obtain ⟨i, hi⟩ := List.getElem?_of_mem hb
  have hl : i < S.length := by rw [← r.len]; exact (List.getElem?_eq_some_iff.mp hi).1
  obtain ⟨ho, h1, _⟩ := r.obj i b S[i] hi (List.getElem?_eq_getElem hl)
  rw [z, h] at h1; cases h1
theorem RelS.nin (r : RelS K mg ψ φ S H) (h : H a = none) : a ∉ φ := fun hb => by
  obtain ⟨i, hi⟩ := List.getElem?_of_mem hb
  have hl : i < S.length := by rw [← r.len]; exact (List.getElem?_eq_some_iff.mp hi).1
  obtain ⟨ho, h1, _⟩ := r.obj i a S[i] hi (List.getElem?_eq_getElem hl)
  rw [h] at h1; cases h1
theorem RelS.ninH (r : RelS K mg ψ φ S H) (h : H a = none) : a ∉ ψ := fun hb => by
  obtain ⟨_, o, ho⟩ := r.hid a hb
  rw [h] at ho; cases ho
theorem RelS.push {ho : HO} {o : Ob} (r : RelS K mg ψ φ S H) (h : H a = none) (q : RepO K mg ψ φ H ho o) : RelS K mg ψ (φ ++ [a]) (S ++ [o]) (L2.upd H a ho) := by
  refine ⟨by rw [List.length_append, List.length_append, r.len]; rfl, ?_, fun b hb => ?_, r.sys.imp fun _ hs => by rw [upd_ne (ne_of_none hs h)]; exact hs, fun i b u hb hu => ?_⟩
  · rw [List.nodup_append]
    exact ⟨r.nd, by simp, fun x hx y hy => by rw [List.mem_singleton.mp hy]; rintro rfl; exact r.nin h hx⟩
  · obtain ⟨n, o, ho⟩ := r.hid b hb
    have ne : b ≠ a := ne_of_none ho h
    refine ⟨fun z => (List.mem_append.mp z).elim n fun z => ne (List.mem_singleton.mp z), o, by rw [upd_ne ne]; exact ho⟩
  · by_cases hi : i < φ.length
    · rw [List.getElem?_append_left hi] at hb
      rw [List.getElem?_append_left (by rw [← r.len]; exact hi)] at hu
      obtain ⟨ho', h1, h2⟩ := r.obj i b u hb hu
      exact ⟨ho', by rw [upd_ne (ne_of_none h1 h)]; exact h1, h2.ext (Ext.push h)⟩
    · have hi : φ.length ≤ i := Nat.le_of_not_lt hi
      rw [List.getElem?_append_right hi] at hb
      rw [List.getElem?_append_right (by rw [← r.len]; exact hi)] at hu
      have e : i - φ.length = 0 := by
        by_cases z : i - φ.length = 0
        · exact z
        · rw [List.getElem?_eq_none (by simp; omega)] at hb; cases hb
      rw [e] at hb
      rw [show i - S.length = 0 by rw [← r.len]; exact e] at hu
      cases hb
      cases hu
      exact ⟨ho, upd_same, q.ext (Ext.push h)⟩
theorem RelS.write {l : Nat} {ho : HO} {o : Ob} (r : RelS K mg ψ φ S H) (h : φ[l]? = some a) (q : RepO K mg ψ φ H ho o) : RelS K mg ψ φ (S.set l o) (L2.upd H a ho) := by
  have hm := List.mem_of_getElem? h
  refine ⟨by rw [List.length_set]; exact r.len, r.nd, fun b hb => ?_, by
    have ne : sysModules ≠ a := fun z => r.sysn (by rw [z]; exact hm)
    rw [upd_ne ne]; exact r.sys, fun i b u hb hu => ?_⟩
  · obtain ⟨n, o, ho⟩ := r.hid b hb
    have ne : b ≠ a := fun z => n (by rw [z]; exact hm)
    exact ⟨n, o, by rw [upd_ne ne]; exact ho⟩
  by_cases e : l = i
  · subst e
    rw [h] at hb; cases hb
    have hl : l < S.length := by rw [← r.len]; exact (List.getElem?_eq_some_iff.mp h).1
    rw [List.getElem?_set_self hl] at hu; cases hu
    exact ⟨ho, upd_same, q.ext (Ext.write hm)⟩
  · rw [List.getElem?_set_ne e] at hu
    obtain ⟨ho', h1, h2⟩ := r.obj i b u hb hu
    have ne : b ≠ a := fun z => by
      subst z
      obtain ⟨a1, b1⟩ := List.getElem?_eq_some_iff.mp hb
      obtain ⟨a2, b2⟩ := List.getElem?_eq_some_iff.mp h
      exact e ((List.getElem_inj r.nd).mp (b2.trans b1.symm))
    exact ⟨ho', by rw [upd_ne ne]; exact h1, h2.ext (Ext.write hm)⟩

theorem vw_cases (S : Sto) (t : T) : vw S t = t ∨ ∃ l, t = .loc l ∧ ∃ xs, S[l]? = some (.lst xs) ∧ vw S t = .vl xs := by
  cases t with
  | loc l =>
    cases e : S[l]? with
    | none => exact .inl (by simp only [vw, e])
    | some o =>
      cases o with
      | lst xs => exact .inr ⟨l, rfl, xs, e, by simp only [vw, e]⟩
      | _ => exact .inl (by simp only [vw, e])
  | _ => exact .inl rfl
/-- a list, seen -/
theorem seen_list (r : RelS K mg ψ φ S H) (h : Rep K mg ψ φ H v t) (e : vw S t = .vl ts) : ∃ a vs, v = .ref a ∧ H a = some (.lst vs) ∧ Reps K mg ψ φ H vs ts := by
  rcases vw_cases S t with q | ⟨l, rfl, xs, hS, q⟩
  · rw [q] at e
    subst e
    cases h with
    | vl h n q => exact ⟨_, _, rfl, h, q⟩
  · rw [q] at e
    cases e
    cases h with
    | loc h =>
      obtain ⟨ho, h1, h2⟩ := r.obj l _ _ h hS
      cases h2 with
      | lst q => exact ⟨_, _, rfl, h1, q⟩
theorem seen_tup (h : Rep K mg ψ φ H v t) (e : vw S t = .tup ts) : ∃ a vs, v = .ref a ∧ SqT K H a vs ∧ Reps K mg ψ φ H vs ts := by
  rcases vw_cases S t with q | ⟨l, rfl, xs, hS, q⟩
  · rw [q] at e
    subst e
    cases h with
    | tup h q => exact ⟨_, _, rfl, h.sq, q⟩
  · rw [q] at e; cases e
theorem seen_scr (h : Rep K mg ψ φ H v t) (e : vw S t = .scr ts) : ∃ a vs, v = .ref a ∧ SqL K H a vs ∧ Reps K mg ψ φ H vs ts := by
  rcases vw_cases S t with q | ⟨l, rfl, xs, hS, q⟩
  · rw [q] at e
    subst e
    cases h with
    | scr h q => exact ⟨_, _, rfl, h.sq, q⟩
  · rw [q] at e; cases e
theorem seen_int {i : Int} (h : Rep K mg ψ φ H v t) (e : vw S t = .int i) : v = .int i := by
  rcases vw_cases S t with q | ⟨l, rfl, xs, hS, q⟩
  · rw [q] at e
    subst e
    cases h
    rfl
  · rw [q] at e; cases e
theorem seen_str {x : Str} (h : Rep K mg ψ φ H v t) (e : vw S t = .str x) : v = .str x := by
  rcases vw_cases S t with q | ⟨l, rfl, xs, hS, q⟩
  · rw [q] at e
    subst e
    cases h
    rfl
  · rw [q] at e; cases e
theorem seen_bl {b : Bool} (h : Rep K mg ψ φ H v t) (e : vw S t = .bl b) : v = .bl b := by
  rcases vw_cases S t with q | ⟨l, rfl, xs, hS, q⟩
  · rw [q] at e
    subst e
    cases h
    rfl
  · rw [q] at e; cases e
theorem seen_non (h : Rep K mg ψ φ H v t) (e : vw S t = .non) : v = .non := by
  rcases vw_cases S t with q | ⟨l, rfl, xs, hS, q⟩
  · rw [q] at e
    subst e
    cases h
    rfl
  · rw [q] at e; cases e
theorem seen_ty {n : String} (h : Rep K mg ψ φ H v t) (e : vw S t = .ty n) : v = .ty n := by
  rcases vw_cases S t with q | ⟨l, rfl, xs, hS, q⟩
  · rw [q] at e
    subst e
    cases h
    rfl
  · rw [q] at e; cases e
end
end Px
end
section
set_option linter.all false
set_option maxRecDepth 100000
/-! Px3: expressions and what they reckon. -/
namespace Px
open PySem PySem.Spec PyProof.Rows L2

structure Base where
  P : Program
  w : World
  K : PySem.W.Frag
  mg : Str → Option Value
  base : Heap
  hid : List Addr
/-- a block's names; those whose cells it made itself -/
structure Scp extends Scope where
  own : Str → Bool
structure Sit (B : Base) (k : Nat) (N : List Str) (sc : Scp) (X : Cx) : Prop where
  hP : X.prog = B.P
  hw : X.w = B.w
  hK : X.K = B.K
  hmg : X.mg = B.mg
  hbase : X.base = B.base
  hN : X.N = N
  nd : N.Nodup
  hsc : X.env.scope = sc.toScope
  fn : ∀ x, sc.own x = true → X.fn x = true
  calm : X.calm = true
  room : Room k X.A
  gs : X.A.guards = some []
  xe : X.xe = fun _ _ => False

def Base.wi (B : Base) (ψ : List Addr) : Base := { B with hid := ψ }
theorem Sit.wi {B : Base} {k : Nat} {N : List Str} {sc : Scp} {X : Cx} (s : Sit B k N sc X) (ψ : List Addr) : Sit (B.wi ψ) k N sc X := ⟨s.hP, s.hw, s.hK, s.hmg, s.hbase, s.hN, s.nd, s.hsc, s.fn, s.calm, s.room, s.gs, s.xe⟩
/-- behind a reckoning -/
def Post {α β : Type} (B : Base) (rep : List Addr → Hp → β → α → Prop) (φ : List Addr) (H : Hp) (r : R α) (Q : β → Hp → Prop) : Prop :=
  match r with
  | .ok t S => ∀ φ' H' v, Ext φ H φ' H' → RelS B.K B.mg B.hid φ' S H' → rep φ' H' v t → Q v H'
  | _ => False
abbrev Base.rep (B : Base) : List Addr → Hp → V → T → Prop := Rep B.K B.mg B.hid
abbrev Base.reps (B : Base) : List Addr → Hp → List V → List T → Prop := Reps B.K B.mg B.hid
def same {α : Type} : List Addr → Hp → α → α → Prop := fun _ _ a b => a = b

/-- the readings: from some store and slots that the heap bears -/
def tI (B : Base) (m : Env → Sto → R T) : TE := fun σ H Q => ∃ φ ρ S, RelS B.K B.mg B.hid φ S H ∧ RelE B.K B.mg B.hid φ H ρ σ ∧ Post B B.rep φ H (m ρ S) Q
def tT (B : Base) (m : Env → Sto → R Bool) : TT := fun σ H Q => ∃ φ ρ S, RelS B.K B.mg B.hid φ S H ∧ RelE B.K B.mg B.hid φ H ρ σ ∧ Post B same φ H (m ρ S) Q
def tAs (B : Base) (m : Env → Sto → R (List T)) : TA := fun σ H Q => ∃ φ ρ S, RelS B.K B.mg B.hid φ S H ∧ RelE B.K B.mg B.hid φ H ρ σ ∧ Post B B.reps φ H (m ρ S) Q
def tPa (B : Base) (m : Env → Sto → R (Option Int)) : TO := fun σ H Q => ∃ φ ρ S, RelS B.K B.mg B.hid φ S H ∧ RelE B.K B.mg B.hid φ H ρ σ ∧ Post B same φ H (m ρ S) Q

def IE (B : Base) (k : Nat) (N : List Str) (sc : Scp) (e : Expr) (m : Env → Sto → R T) : Prop := ∀ X, Sit B k N sc X → PE X e (tI B m)
def IT (B : Base) (k : Nat) (N : List Str) (sc : Scp) (e : Expr) (m : Env → Sto → R Bool) : Prop := ∀ X, Sit B k N sc X → PT X e (tT B m)
def IA (B : Base) (k : Nat) (N : List Str) (sc : Scp) (es : List Expr) (m : Env → Sto → R (List T)) : Prop := ∀ X, Sit B k N sc X → PA X es (tAs B m)
def IO (B : Base) (k : Nat) (N : List Str) (sc : Scp) (e : Option Expr) (m : Env → Sto → R (Option Int)) : Prop := ∀ X, Sit B k N sc X → PO X e (tPa B m)

theorem PE.imp {X : Cx} {e : Expr} {t t' : TE} (h : PE X e t) (hi : ∀ σ H Q, t' σ H Q → t σ H Q) : PE X e t' := ⟨fun pins s σ H Q I q => h.run pins s σ H Q I (hi _ _ _ q)⟩
theorem PT.imp {X : Cx} {e : Expr} {t t' : TT} (h : PT X e t) (hi : ∀ σ H Q, t' σ H Q → t σ H Q) : PT X e t' := ⟨fun pins s σ H Q I q => h.run pins s σ H Q I (hi _ _ _ q)⟩
theorem PA.imp {X : Cx} {e : List Expr} {t t' : TA} (h : PA X e t) (hi : ∀ σ H Q, t' σ H Q → t σ H Q) : PA X e t' := ⟨fun pos pins s σ H Q I q => h.run pos pins s σ H Q I (hi _ _ _ q)⟩
theorem PO.imp {X : Cx} {e : Option Expr} {t t' : TO} (h : PO X e t) (hi : ∀ σ H Q, t' σ H Q → t σ H Q) : PO X e t' := ⟨fun pins s σ H Q I q => h.run pins s σ H Q I (hi _ _ _ q)⟩

section
variable {B : Base} {k : Nat} {N : List Str} {sc : Scp} {φ φ1 : List Addr} {H H1 : Hp} {S S1 : Sto} {ρ : Env} {σ : L2.St}

theorem Post.later {α β : Type} {rep : List Addr → Hp → β → α → Prop} {r : R α} {Q : β → Hp → Prop} (h : Post B rep φ H r Q) (e : Ext φ H φ1 H1) : Post B rep φ1 H1 r Q := by
  cases r with
  | ok t S => exact fun φ' H' v x => h φ' H' v (e.trans x)
  | exc => exact h
  | bad => exact h
theorem Post.ok {α β : Type} {rep : List Addr → Hp → β → α → Prop} {t : α} {v : β} {Q : β → Hp → Prop} (h : Post B rep φ H (.ok t S) Q) (r : RelS B.K B.mg B.hid φ S H) (q : rep φ H v t) : Q v H := h φ H v Ext.refl r q
/-- one reckoning, then another -/
theorem Post.bind {α β γ δ : Type} {rep : List Addr → Hp → β → α → Prop} {rep' : List Addr → Hp → δ → γ → Prop} {r : R α} {f : α → Sto → R γ} {Q : δ → Hp → Prop} {Q1 : β → Hp → Prop} (h : Post B rep' φ H (r.bind f) Q)
    (hf : ∀ t S1 φ1 H1 v, r = .ok t S1 → Ext φ H φ1 H1 → RelS B.K B.mg B.hid φ1 S1 H1 → rep φ1 H1 v t → Post B rep' φ1 H1 (f t S1) Q → Q1 v H1) : Post B rep φ H r Q1 := by
  cases r with
  | ok t S => exact fun φ' H' v x s q => hf t S φ' H' v rfl x s q (Post.later (r := f t S) h x)
  | exc => exact h
  | bad => exact h
/-- an option, reckoned -/
theorem Post.opt {α β : Type} {rep : List Addr → Hp → β → α → Prop} {o : Option α} {Q : β → Hp → Prop} (h : Post B rep φ H (R.opt o S) Q) : ∃ t, o = some t ∧ Post B rep φ H (.ok t S) Q := by
  cases o with
  | none => exact h.elim
  | some t => exact ⟨t, rfl, h⟩
theorem Post.gd {α β : Type} {rep : List Addr → Hp → β → α → Prop} {b : Bool} {a : α} {Q : β → Hp → Prop} (h : Post B rep φ H (R.opt (gd b a) S) Q) : b = true ∧ Post B rep φ H (.ok a S) Q := by
  cases b with
  | false => exact h.elim
  | true => exact ⟨rfl, h⟩

/-! ### new tuples, lists -/
theorem post_tup {ts : List T} {vs : List V} {Q : VK} (h : Post B B.rep φ H (.ok (.tup ts) S) Q) (r : RelS B.K B.mg B.hid φ S H) (q : B.reps φ H vs ts) : ∀ p, H p = none → Q (.ref p) (upd H p (.tup vs)) := fun p hp =>
  h φ _ _ (Ext.upd hp) (r.upd hp) (.tup (.inl ⟨.inl upd_same, r.nin hp, r.ninH hp⟩) (q.ext (Ext.upd hp)))
theorem post_lst {ts : List T} {vs : List V} {Q : VK} (h : Post B B.rep φ H (.ok (.vl ts) S) Q) (r : RelS B.K B.mg B.hid φ S H) (q : B.reps φ H vs ts) : ∀ p, H p = none → Q (.ref p) (upd H p (.lst vs)) := fun p hp =>
  h φ _ _ (Ext.upd hp) (r.upd hp) (.vl upd_same ⟨r.nin hp, r.ninH hp⟩ (q.ext (Ext.upd hp)))

/-! ### names, constants -/
theorem ie_loc {i : Nat} {x : Str} {pos : Pos} (hN : N[i]? = some x) (hv : Vis sc.toScope x) (hd : (x == ("__debug__" : Str)) = false) (hcd : (x == ("__classdict__" : Str)) = false) :
    IE B k N sc (.Name x pos) (fun ρ S => match ρ[i]? with | some (some t) => .ok t S | _ => .bad) := fun X s => by
  refine PE.imp (pe_var (i := i) (x := x) (by rw [s.hN]; exact hN) (by rw [s.hsc]; exact hv) hd hcd) fun σ H Q ⟨φ, ρ, S, hS, hE, hp⟩ => ?_
  cases e : ρ[i]? with
  | none => simp only [e] at hp; exact hp.elim
  | some o =>
    cases o with
    | none => simp only [e] at hp; exact hp.elim
    | some t =>
      simp only [e] at hp
      obtain ⟨v, h1, h2⟩ := hE.get i t e
      exact ⟨v, h1, hp.ok hS h2⟩
theorem ie_int {i : Int} {j pos} : IE B k N sc (.Constant (.int i) j pos) (fun _ S => .ok (.int i) S) := fun X s =>
  PE.imp pe_int fun σ H Q ⟨φ, ρ, S, hS, hE, hp⟩ => hp.ok hS (.int i)
theorem ie_bl {b : Bool} {j pos} : IE B k N sc (.Constant (.bool b) j pos) (fun _ S => .ok (.bl b) S) := fun X s =>
  PE.imp pe_bl fun σ H Q ⟨φ, ρ, S, hS, hE, hp⟩ => hp.ok hS (.bl b)
theorem ie_non {j pos} : IE B k N sc (.Constant .none j pos) (fun _ S => .ok .non S) := fun X s =>
  PE.imp pe_non fun σ H Q ⟨φ, ρ, S, hS, hE, hp⟩ => hp.ok hS .non
theorem ie_str {x : Str} {j pos} : IE B k N sc (.Constant (.str x) j pos) (fun _ S => .ok (.str x) S) := fun X s =>
  PE.imp pe_str fun σ H Q ⟨φ, ρ, S, hS, hE, hp⟩ => hp.ok hS (.str x)
theorem gl_of {X : Cx} {x : Str} (s : Sit B k N sc X) (h : sc.names.lookup x = some .globalImplicit) : Gl X x := by
  show X.env.kindOf x = _
  unfold Env.kindOf
  rw [s.hsc]; exact h
/-- a module's constant -/
theorem ie_glob {x : Str} {u : Value} {v : V} {t : T} {pos : Pos} (hg : sc.names.lookup x = some .globalImplicit) (hm : B.mg x = some u) (r : RelV v u) (q : ∀ φ H, B.rep φ H v t) (hd : (x == ("__debug__" : Str)) = false) :
    IE B k N sc (.Name x pos) (fun _ S => .ok t S) := fun X s =>
  PE.imp (pe_glob (gl_of s hg) (by rw [s.hmg]; exact hm) r hd) fun σ H Q ⟨φ, ρ, S, hS, hE, hp⟩ => hp.ok hS (q φ H)
/-- a builtin's name as a value -/
theorem ie_blt {x : Str} {n : String} {pos : Pos} (hg : sc.names.lookup x = some .globalImplicit) (hm : B.mg x = none) (hb : bootBuiltins x = some (.type n)) (hn : x ≠ "__name__") (hd : (x == ("__debug__" : Str)) = false) :
    IE B k N sc (.Name x pos) (fun _ S => .ok (.ty n) S) := fun X s =>
  PE.imp (pe_bltn (v := .ty n) (gl_of s hg) (by rw [s.hmg]; exact hm) hb rfl hn hd) fun σ H Q ⟨φ, ρ, S, hS, hE, hp⟩ => hp.ok hS (.ty n)

/-! ### operators -/
/-- a two-place operation -/
def BinI (B : Base) (k : Nat) (N : List Str) (sc : Scp) (g : Value → Value → Sem Value) (f : T → T → Option T) : Prop := ∀ X, Sit B k N sc X → ∃ r : R2, OpR X g r ∧
  ∀ φ S H x y a b Q, RelS B.K B.mg B.hid φ S H → B.rep φ H x a → B.rep φ H y b → Post B B.rep φ H (R.opt (f (vw S a) (vw S b)) S) Q → r x y H Q
theorem ie_bin {a b : Expr} {ma mb : Env → Sto → R T} {op : Operator} {f : T → T → Option T} {pos : Pos} (ha : IE B k N sc a ma) (hb : IE B k N sc b mb) (ho : BinI B k N sc (binaryOp op) f) :
    IE B k N sc (.BinOp a op b pos) (fun ρ S => (ma ρ S).bind fun x S => (mb ρ S).bind fun y S => R.opt (f (vw S x) (vw S y)) S) := fun X s => by
  obtain ⟨r, h1, h2⟩ := ho X s
  refine PE.imp (pe_op h1 (ha X s) (hb X s)) fun σ H Q ⟨φ, ρ, S, hS, hE, hp⟩ => ?_
  refine ⟨φ, ρ, S, hS, hE, hp.bind fun t S1 φ1 H1 v _ e1 hS1 rv hp1 => ?_⟩
  refine ⟨φ1, ρ, S1, hS1, hE.ext e1, hp1.bind fun t2 S2 φ2 H2 v2 _ e2 hS2 rv2 hp2 => ?_⟩
  exact h2 φ2 S2 H2 v v2 t t2 Q hS2 (rv.ext e2) rv2 hp2
/-- a comparison -/
def CmpI (B : Base) (k : Nat) (N : List Str) (sc : Scp) (g : Value → Value → Sem Value) (f : T → T → Option Bool) : Prop := ∀ X, Sit B k N sc X → ∃ r : R2, OpR X g r ∧
  ∀ φ S H x y a b Q, RelS B.K B.mg B.hid φ S H → B.rep φ H x a → B.rep φ H y b → Post B (fun _ _ v c => v = .bl c) φ H (R.opt (f (vw S a) (vw S b)) S) Q → r x y H Q
theorem Post.blI {r : R Bool} {Q : VK} (h : Post B B.rep φ H (r.bind fun k S => .ok (.bl k) S) Q) : Post B (fun _ _ v c => v = V.bl c) φ H r Q := by
  cases r with
  | ok c S => exact fun φ' H' v x s q => by subst q; exact h φ' H' _ x s (.bl c)
  | exc => exact h
  | bad => exact h
theorem ie_cmp {a b : Expr} {ma mb : Env → Sto → R T} {op : CmpOp} {f : T → T → Option Bool} {pos : Pos} (ha : IE B k N sc a ma) (hb : IE B k N sc b mb) (ho : CmpI B k N sc (compareOp op) f) (hm : behindInMarks op b = false) :
    IE B k N sc (.Compare a [op] [b] pos) (fun ρ S => (ma ρ S).bind fun x S => (mb ρ S).bind fun y S => (R.opt (f (vw S x) (vw S y)) S).bind fun k S => .ok (.bl k) S) := fun X s => by
  obtain ⟨r, h1, h2⟩ := ho X s
  refine PE.imp (pe_cmpR h1 (ha X s) (hb X s) hm) fun σ H Q ⟨φ, ρ, S, hS, hE, hp⟩ => ?_
  refine ⟨φ, ρ, S, hS, hE, hp.bind fun t S1 φ1 H1 v _ e1 hS1 rv hp1 => ?_⟩
  refine ⟨φ1, ρ, S1, hS1, hE.ext e1, hp1.bind fun t2 S2 φ2 H2 v2 _ e2 hS2 rv2 hp2 => ?_⟩
  exact h2 φ2 S2 H2 v v2 t t2 Q hS2 (rv.ext e2) rv2 hp2.blI
theorem it_cmp {a b : Expr} {ma mb : Env → Sto → R T} {op : CmpOp} {f : T → T → Option Bool} {pos : Pos} (ha : IE B k N sc a ma) (hb : IE B k N sc b mb) (ho : CmpI B k N sc (compareOp op) f) (hm : behindInMarks op b = false) :
    IT B k N sc (.Compare a [op] [b] pos) (fun ρ S => (ma ρ S).bind fun x S => (mb ρ S).bind fun y S => R.opt (f (vw S x) (vw S y)) S) := fun X s => by
  obtain ⟨r, h1, h2⟩ := ho X s
  refine PT.imp (pt_cmpR h1 (ha X s) (hb X s) hm) fun σ H Q ⟨φ, ρ, S, hS, hE, hp⟩ => ?_
  refine ⟨φ, ρ, S, hS, hE, hp.bind fun t S1 φ1 H1 v _ e1 hS1 rv hp1 => ?_⟩
  refine ⟨φ1, ρ, S1, hS1, hE.ext e1, hp1.bind fun t2 S2 φ2 H2 v2 _ e2 hS2 rv2 hp2 => ?_⟩
  refine h2 φ2 S2 H2 v v2 t t2 _ hS2 (rv.ext e2) rv2 ?_
  obtain ⟨c, ec, hp3⟩ := hp2.opt
  rw [ec]
  exact fun φ' H' v x s q => ⟨c, q, hp3 φ' H' c x s rfl⟩

/-! ### truth -/
theorem tru_rep {v : V} {t : T} {c : Bool} (r : RelS B.K B.mg B.hid φ S H) (h : B.rep φ H v t) (e : tru (vw S t) = some c) : TruV B.K v H c := by
  cases q : vw S t with
  | non => rw [q] at e; cases e; rw [seen_non h q]; rfl
  | bl b => rw [q] at e; cases e; rw [seen_bl h q]; rfl
  | int i => rw [q] at e; cases e; rw [seen_int h q]; rfl
  | str x =>
    rw [q] at e
    have e' : gd (decide (x.length ≤ lim)) (x.length != 0) = some c := e
    obtain ⟨hz, rfl⟩ := gd_some e'
    rw [seen_str h q]
    refine ⟨of_decide_eq_true hz, ?_⟩
    rw [Bool.eq_iff_iff]; simp
  | tup xs =>
    rw [q] at e; cases e
    obtain ⟨a, vs, rfl, h1, h2⟩ := seen_tup h q
    refine .inr (.inl ⟨vs, h1, ?_⟩)
    cases h2 <;> rfl
  | vl xs =>
    rw [q] at e; cases e
    obtain ⟨a, vs, rfl, h1, h2⟩ := seen_list r h q
    refine .inl ⟨vs, .of h1, ?_⟩
    cases h2 <;> rfl
  | _ => rw [q] at e; cases e
theorem post_tru {β : Type} {v : V} {t : T} {rep : List Addr → Hp → β → Bool → Prop} {Q : β → Hp → Prop} (hp : Post B rep φ H (truR t S) Q) (r : RelS B.K B.mg B.hid φ S H) (h : B.rep φ H v t) : ∃ c, TruV B.K v H c ∧ Post B rep φ H (.ok c S) Q := by
  obtain ⟨c, e, hp1⟩ := Post.opt hp
  exact ⟨c, tru_rep r h e, hp1⟩
/-- any expression as a test -/
theorem it_tru {a : Expr} {ma : Env → Sto → R T} (ha : IE B k N sc a ma) (he : ∀ env whole, isTrue a env whole = (do let v ← whole; standAt a.pos; holding [v] (truthy v))) :
    IT B k N sc a (fun ρ S => (ma ρ S).bind truR) := fun X s => by
  refine PT.imp (pt_truth (ha X s) (he _)) fun σ H Q ⟨φ, ρ, S, hS, hE, hp⟩ => ?_
  refine ⟨φ, ρ, S, hS, hE, hp.bind fun t S1 φ1 H1 v _ e1 hS1 rv hp1 => ?_⟩
  obtain ⟨c, h1, h2⟩ := post_tru hp1 hS1 rv
  exact ⟨c, by rw [s.hK]; exact h1, h2.ok hS1 rfl⟩
theorem it_not {a : Expr} {ma : Env → Sto → R Bool} {pos : Pos} (ha : IT B k N sc a ma) : IT B k N sc (.UnaryOp .Not a pos) (fun ρ S => (ma ρ S).bind fun k S => .ok (!k) S) := fun X s => by
  refine PT.imp (pt_not (ha X s)) fun σ H Q ⟨φ, ρ, S, hS, hE, hp⟩ => ?_
  exact ⟨φ, ρ, S, hS, hE, hp.bind fun t S1 φ1 H1 v _ e1 hS1 rv hp1 => by cases rv; exact hp1.ok hS1 rfl⟩
theorem ie_not {a : Expr} {ma : Env → Sto → R T} {pos : Pos} (ha : IE B k N sc a ma) : IE B k N sc (.UnaryOp .Not a pos) (fun ρ S => (ma ρ S).bind fun x S => (truR x S).bind fun k S => .ok (.bl (!k)) S) := fun X s => by
  refine PE.imp (pe_notT (ha X s)) fun σ H Q ⟨φ, ρ, S, hS, hE, hp⟩ => ?_
  refine ⟨φ, ρ, S, hS, hE, hp.bind fun t S1 φ1 H1 v _ e1 hS1 rv hp1 => ?_⟩
  obtain ⟨c, h1, h2⟩ := post_tru (rep := same) (Q := fun c H' => Q (.bl (!c)) H') (hp1.bind fun c S2 φ2 H2 w _ e2 hS2 r2 hp2 => by cases r2; exact hp2.ok hS2 (.bl _)) hS1 rv
  exact ⟨c, by rw [s.hK]; exact h1, h2.ok hS1 rfl⟩
/-- and, or as tests -/
def IW (B : Base) (k : Nat) (N : List Str) (sc : Scp) (e : Expr) (m : Env → Sto → R Bool) : Prop := ∀ X, Sit B k N sc X → PW X e (tT B m)
theorem PW.imp {X : Cx} {e : Expr} {t t' : TT} (h : PW X e t) (hi : ∀ σ H Q, t' σ H Q → t σ H Q) : PW X e t' := ⟨fun wh pins s σ H Q I q => h.run wh pins s σ H Q I (hi _ _ _ q)⟩
variable {a b : Expr} {rest : List Expr} {pos : Pos}
theorem iw_and1 {ma : Env → Sto → R Bool} (ha : IT B k N sc a ma) : IW B k N sc (.BoolOp .And [a] pos) ma := fun X s => pw_and1 (ha X s)
theorem iw_or1 {ma : Env → Sto → R Bool} (ha : IT B k N sc a ma) : IW B k N sc (.BoolOp .Or [a] pos) ma := fun X s => pw_or1 (ha X s)
theorem iw_and {ma mb : Env → Sto → R Bool} (ha : IT B k N sc a ma) (hb : IW B k N sc (.BoolOp .And (b :: rest) pos) mb) :
    IW B k N sc (.BoolOp .And (a :: b :: rest) pos) (fun ρ S => (ma ρ S).bind fun c S => if c then mb ρ S else .ok false S) := fun X s => by
  refine PW.imp (pw_and (ha X s) (hb X s)) fun σ H Q ⟨φ, ρ, S, hS, hE, hp⟩ => ?_
  refine ⟨φ, ρ, S, hS, hE, hp.bind fun c S1 φ1 H1 v _ e1 hS1 rv hp1 => ?_⟩
  cases rv
  cases c with
  | true => exact ⟨φ1, ρ, S1, hS1, hE.ext e1, hp1⟩
  | false => exact Post.ok (rep := same) hp1 hS1 rfl
theorem iw_or {ma mb : Env → Sto → R Bool} (ha : IT B k N sc a ma) (hb : IW B k N sc (.BoolOp .Or (b :: rest) pos) mb) :
    IW B k N sc (.BoolOp .Or (a :: b :: rest) pos) (fun ρ S => (ma ρ S).bind fun c S => if c then .ok true S else mb ρ S) := fun X s => by
  refine PW.imp (pw_or (ha X s) (hb X s)) fun σ H Q ⟨φ, ρ, S, hS, hE, hp⟩ => ?_
  refine ⟨φ, ρ, S, hS, hE, hp.bind fun c S1 φ1 H1 v _ e1 hS1 rv hp1 => ?_⟩
  cases rv
  cases c with
  | true => exact Post.ok (rep := same) hp1 hS1 rfl
  | false => exact ⟨φ1, ρ, S1, hS1, hE.ext e1, hp1⟩
theorem IW.it {e : Expr} {m : Env → Sto → R Bool} (h : IW B k N sc e m) : IT B k N sc e m := fun X s => (h X s).pt
/-- .. as values -/
theorem ie_and1 {op : BoolOp} {ma : Env → Sto → R T} (ha : IE B k N sc a ma) : IE B k N sc (.BoolOp op [a] pos) ma := fun X s => pe_one (ha X s)
theorem ie_and {ma mb : Env → Sto → R T} (ha : IE B k N sc a ma) (hb : IE B k N sc (.BoolOp .And (b :: rest) pos) mb) :
    IE B k N sc (.BoolOp .And (a :: b :: rest) pos) (fun ρ S => (ma ρ S).bind fun x S => (truR x S).bind fun c S => if c then mb ρ S else .ok x S) := fun X s => by
  refine PE.imp (pe_andT (ha X s) (hb X s)) fun σ H Q ⟨φ, ρ, S, hS, hE, hp⟩ => ?_
  refine ⟨φ, ρ, S, hS, hE, hp.bind fun t S1 φ1 H1 v _ e1 hS1 rv hp1 => ?_⟩
  obtain ⟨c, ec, hp2⟩ : ∃ c, tru (vw S1 t) = some c ∧ Post B B.rep φ1 H1 (if c then mb ρ S1 else .ok t S1) Q := by
    unfold truR at hp1
    cases e : tru (vw S1 t) with
    | none => rw [e] at hp1; exact hp1.elim
    | some c => rw [e] at hp1; exact ⟨c, rfl, hp1⟩
  refine ⟨c, by rw [s.hK]; exact tru_rep hS1 rv ec, ?_⟩
  cases c with
  | true => exact ⟨φ1, ρ, S1, hS1, hE.ext e1, hp2⟩
  | false => exact hp2.ok hS1 rv
theorem ie_or {ma mb : Env → Sto → R T} (ha : IE B k N sc a ma) (hb : IE B k N sc (.BoolOp .Or (b :: rest) pos) mb) :
    IE B k N sc (.BoolOp .Or (a :: b :: rest) pos) (fun ρ S => (ma ρ S).bind fun x S => (truR x S).bind fun c S => if c then .ok x S else mb ρ S) := fun X s => by
  refine PE.imp (pe_orT (ha X s) (hb X s)) fun σ H Q ⟨φ, ρ, S, hS, hE, hp⟩ => ?_
  refine ⟨φ, ρ, S, hS, hE, hp.bind fun t S1 φ1 H1 v _ e1 hS1 rv hp1 => ?_⟩
  obtain ⟨c, ec, hp2⟩ : ∃ c, tru (vw S1 t) = some c ∧ Post B B.rep φ1 H1 (if c then .ok t S1 else mb ρ S1) Q := by
    unfold truR at hp1
    cases e : tru (vw S1 t) with
    | none => rw [e] at hp1; exact hp1.elim
    | some c => rw [e] at hp1; exact ⟨c, rfl, hp1⟩
  refine ⟨c, by rw [s.hK]; exact tru_rep hS1 rv ec, ?_⟩
  cases c with
  | true => exact hp2.ok hS1 rv
  | false => exact ⟨φ1, ρ, S1, hS1, hE.ext e1, hp2⟩
theorem ie_ife {c : Expr} {mc : Env → Sto → R Bool} {ma mb : Env → Sto → R T} (hc : IT B k N sc c mc) (ha : IE B k N sc a ma) (hb : IE B k N sc b mb) :
    IE B k N sc (.IfExp c a b pos) (fun ρ S => (mc ρ S).bind fun c S => if c then ma ρ S else mb ρ S) := fun X s => by
  refine PE.imp (pe_ifExp (hc X s) (ha X s) (hb X s)) fun σ H Q ⟨φ, ρ, S, hS, hE, hp⟩ => ?_
  refine ⟨φ, ρ, S, hS, hE, hp.bind fun c S1 φ1 H1 v _ e1 hS1 rv hp1 => ?_⟩
  cases rv
  cases c with
  | true => exact ⟨φ1, ρ, S1, hS1, hE.ext e1, hp1⟩
  | false => exact ⟨φ1, ρ, S1, hS1, hE.ext e1, hp1⟩
/-- a < b < c -/
theorem ie_cmp2 {c : Expr} {ma mb mc : Env → Sto → R T} {op op' : CmpOp} {f f' : T → T → Option Bool} (ha : IE B k N sc a ma) (hb : IE B k N sc b mb) (hc : IE B k N sc c mc) (ho : CmpI B k N sc (compareOp op) f) (ho' : CmpI B k N sc (compareOp op') f')
    (hm : lastMarks [op, op'] [b, c] = false) :
    IE B k N sc (.Compare a [op, op'] [b, c] pos) (fun ρ S => (ma ρ S).bind fun x S => (mb ρ S).bind fun y S => (R.opt (f (vw S x) (vw S y)) S).bind fun k S =>
      if k then (mc ρ S).bind fun z S => (R.opt (f' (vw S y) (vw S z)) S).bind fun k S => .ok (.bl k) S else .ok (.bl false) S) := fun X s => by
  obtain ⟨r, h1, h2⟩ := ho X s
  obtain ⟨r', h1', h2'⟩ := ho' X s
  refine PE.imp (pe_chain h1 h1' (ha X s) (hb X s) (hc X s) hm) fun σ H Q ⟨φ, ρ, S, hS, hE, hp⟩ => ?_
  refine ⟨φ, ρ, S, hS, hE, hp.bind fun t S1 φ1 H1 v _ e1 hS1 rv hp1 => ?_⟩
  refine ⟨φ1, ρ, S1, hS1, hE.ext e1, hp1.bind fun t2 S2 φ2 H2 v2 _ e2 hS2 rv2 hp2 => ?_⟩
  refine h2 φ2 S2 H2 v v2 t t2 _ hS2 (rv.ext e2) rv2 (hp2.bind fun c S3 φ3 H3 w _ e3 hS3 rw3 hp3 => ?_)
  refine ⟨c, rw3, ?_⟩
  cases c with
  | false => exact hp3.ok hS3 (.bl false)
  | true =>
    refine ⟨φ3, ρ, S3, hS3, hE.ext (e1.trans (e2.trans e3)), hp3.bind fun t4 S4 φ4 H4 v4 _ e4 hS4 rv4 hp4 => ?_⟩
    exact h2' φ4 S4 H4 v2 v4 t2 t4 Q hS4 ((rv2.ext e3).ext e4) rv4 hp4.blI
end
end Px
end
section
set_option linter.all false
set_option maxRecDepth 100000
/-! Px4: operators, comparisons, subscripts, displays. -/
namespace Px
open PySem PySem.Spec PyProof.Rows L2
section
variable {B : Base} {k : Nat} {N : List Str} {sc : Scp}

theorem CMulW.of {i j : Int} (h : bits i + bits j < 900000) : CMulW i j := by
  unfold bits at h
  show i.natAbs.log2 + j.natAbs.log2 < 1000000
  omega
theorem intBits_le_bits (i : Int) : Builtin.Int.intBits i ≤ bits i := by
  unfold Builtin.Int.intBits bits
  split <;> omega
theorem op_powW {X : Cx} : OpR X (binaryOp .Pow) (rI (fun i j => 0 ≤ j ∧ bits i * j.toNat < 900000) fun i j => .int (i ^ j.toNat)) := opI fun i j _ _ _ _ _ hc q => by
  refine pow_int hc.1 ?_ q
  have h1 : Builtin.Int.intBits i * j.toNat ≤ bits i * j.toNat := Nat.mul_le_mul_right _ (intBits_le_bits i)
  have h2 : ((Builtin.Int.intBits i * j.toNat : Nat) : Int) ≤ 900000 := by
    have := hc.2
    omega
  have h3 : (Builtin.Int.intBits i : Int) * j = ((Builtin.Int.intBits i * j.toNat : Nat) : Int) := by
    rw [Int.natCast_mul, Int.toNat_of_nonneg hc.1]
  rw [h3]
  omega

theorem op_add_bi {X : Cx} : OpR X (binaryOp .Add) (fun x y H Q => ∃ c j, x = .bl c ∧ y = .int j ∧ Q (.int ((if c = true then (1 : Int) else 0) + j)) H) := by
  intro pins s σ H x y v u Q I rx ry h
  obtain ⟨c, j, rfl, rfl, q⟩ := h
  obtain ⟨t, rfl⟩ := ry
  cases rx
  exact PySem.IntBool.add_bool_int ⟨.int _, H, I.tok _, ⟨_, rfl⟩, q⟩
theorem op_add_ibl {X : Cx} : OpR X (binaryOp .Add) (fun x y H Q => ∃ i c, x = .int i ∧ y = .bl c ∧ Q (.int (i + if c = true then (1 : Int) else 0)) H) := by
  intro pins s σ H x y v u Q I rx ry h
  obtain ⟨i, c, rfl, rfl, q⟩ := h
  obtain ⟨t, rfl⟩ := rx
  cases ry
  exact add_int_bool ⟨.int _, H, I.tok _, ⟨_, rfl⟩, q⟩
theorem op_sub_bi {X : Cx} : OpR X (binaryOp .Sub) (fun x y H Q => ∃ c j, x = .bl c ∧ y = .int j ∧ Q (.int ((if c = true then (1 : Int) else 0) - j)) H) := by
  intro pins s σ H x y v u Q I rx ry h
  obtain ⟨c, j, rfl, rfl, q⟩ := h
  obtain ⟨t, rfl⟩ := ry
  cases rx
  exact PySem.IntBool.sub_bool_int ⟨.int _, H, I.tok _, ⟨_, rfl⟩, q⟩
theorem inv_add {a b t : T} (h : binT .add a b = some t) : (∃ c j, a = .bl c ∧ b = .int j ∧ t = .int ((if c = true then (1 : Int) else 0) + j)) ∨ (∃ i c, a = .int i ∧ b = .bl c ∧ t = .int (i + if c = true then (1 : Int) else 0)) ∨ (∃ i j, a = .int i ∧ b = .int j ∧ t = .int (i + j)) ∨ (∃ x y, a = .str x ∧ b = .str y ∧ x.length + y.length ≤ lim ∧ t = .str (x ++ y)) ∨
    (∃ xs ys, a = .tup xs ∧ b = .tup ys ∧ xs.length + ys.length ≤ lim ∧ t = .tup (xs ++ ys)) ∨ (∃ xs ys, a = .vl xs ∧ b = .vl ys ∧ xs.length + ys.length ≤ lim ∧ t = .vl (xs ++ ys)) := by
  cases a <;> cases b <;> first
    | (cases h; done)
    | (cases h; exact .inl ⟨_, _, rfl, rfl, rfl⟩)
    | (cases h; exact .inr (.inl ⟨_, _, rfl, rfl, rfl⟩))
    | (cases h; exact .inr (.inr (.inl ⟨_, _, rfl, rfl, rfl⟩)))
    | (obtain ⟨h1, rfl⟩ := gd_some h; exact .inr (.inr (.inr (.inl ⟨_, _, rfl, rfl, of_decide_eq_true h1, rfl⟩))))
    | (obtain ⟨h1, rfl⟩ := gd_some h; exact .inr (.inr (.inr (.inr (.inl ⟨_, _, rfl, rfl, of_decide_eq_true h1, rfl⟩)))))
    | (obtain ⟨h1, rfl⟩ := gd_some h; exact .inr (.inr (.inr (.inr (.inr ⟨_, _, rfl, rfl, of_decide_eq_true h1, rfl⟩)))))
theorem bin_add : BinI B k N sc (binaryOp .Add) (binT .add) := fun X s => by
  refine ⟨_, OpR.or op_add_bi (OpR.or op_add_ibl (OpR.or op_add (OpR.or op_add_str (OpR.or op_catA op_cat)))), fun φ S H x y a b Q hS ra rb hp => ?_⟩
  obtain ⟨t, ht, hq⟩ := hp.opt
  rcases inv_add ht with ⟨c, j, ea, eb, rfl⟩ | ⟨i, c, ea, eb, rfl⟩ | ⟨i, j, ea, eb, rfl⟩ | ⟨i, j, ea, eb, hz, rfl⟩ | ⟨xs, ys, ea, eb, hz, rfl⟩ | ⟨xs, ys, ea, eb, hz, rfl⟩
  · exact .inl ⟨c, j, seen_bl ra ea, seen_int rb eb, hq.ok hS (.int _)⟩
  · exact .inr (.inl ⟨i, c, seen_int ra ea, seen_bl rb eb, hq.ok hS (.int _)⟩)
  · exact .inr (.inr (.inl ⟨i, j, seen_int ra ea, seen_int rb eb, hq.ok hS (.int _)⟩))
  · exact .inr (.inr (.inr (.inl ⟨i, j, seen_str ra ea, seen_str rb eb, hz, hq.ok hS (.str _)⟩)))
  · obtain ⟨p, vs, rfl, h1, q1⟩ := seen_tup ra ea
    obtain ⟨p', ws, rfl, h2, q2⟩ := seen_tup rb eb
    refine .inr (.inr (.inr (.inr (.inl ⟨p, p', vs, ws, rfl, rfl, by rw [s.hK]; exact h1, by rw [s.hK]; exact h2, by rw [q1.length, q2.length]; exact hz, fun e => ?_, fun _ e => ?_, fun _ _ => post_tup hq hS (q1.append q2)⟩))))
    · subst e
      cases q1
      have e2 : vw S b = b := by
        rcases vw_cases S b with q | ⟨l, rfl, zs, _, q⟩
        · exact q
        · rw [q] at eb; cases eb
      rw [e2] at eb
      subst eb
      exact hq.ok hS rb
    · subst e
      cases q2
      have e2 : vw S a = a := by
        rcases vw_cases S a with q | ⟨l, rfl, zs, _, q⟩
        · exact q
        · rw [q] at ea; cases ea
      rw [e2] at ea
      subst ea
      rw [List.append_nil] at hq
      exact hq.ok hS ra
  · obtain ⟨p, vs, rfl, h1, q1⟩ := seen_list hS ra ea
    obtain ⟨p', ws, rfl, h2, q2⟩ := seen_list hS rb eb
    exact .inr (.inr (.inr (.inr (.inr ⟨p, p', vs, ws, rfl, rfl, h1, h2, by rw [q1.length, q2.length]; exact hz, post_lst hq hS (q1.append q2)⟩))))
theorem inv_int {op : BOp} {a b t : T} (ho : op = .mod ∨ op = .fdiv ∨ op = .pow) (h : binT op a b = some t) : ∃ i j, a = .int i ∧ b = .int j := by
  rcases ho with rfl | rfl | rfl <;> cases a <;> cases b <;> first
    | (cases h; done)
    | exact ⟨_, _, rfl, rfl⟩
theorem bin_sub : BinI B k N sc (binaryOp .Sub) (binT .sub) := fun X s => by
  refine ⟨_, OpR.or op_sub op_sub_bi, fun φ S H x y a b Q hS ra rb hp => ?_⟩
  obtain ⟨t, ht, hq⟩ := hp.opt
  have key : (∃ i j, vw S a = .int i ∧ vw S b = .int j ∧ t = .int (i - j)) ∨ ∃ c j, vw S a = .bl c ∧ vw S b = .int j ∧ t = .int ((if c = true then (1 : Int) else 0) - j) := by
    cases ea : vw S a <;> cases eb : vw S b <;> rw [ea, eb] at ht <;> first
      | (cases ht; done)
      | (cases ht; exact .inl ⟨_, _, rfl, rfl, rfl⟩)
      | (cases ht; exact .inr ⟨_, _, rfl, rfl, rfl⟩)
  rcases key with ⟨i, j, ea, eb, rfl⟩ | ⟨c, j, ea, eb, rfl⟩
  · exact .inl ⟨i, j, seen_int ra ea, seen_int rb eb, hq.ok hS (.int _)⟩
  · exact .inr ⟨c, j, seen_bl ra ea, seen_int rb eb, hq.ok hS (.int _)⟩
theorem bin_mod : BinI B k N sc (binaryOp .Mod) (binT .mod) := fun X s => by
  refine ⟨_, op_mod, fun φ S H x y a b Q hS ra rb hp => ?_⟩
  obtain ⟨t, ht, hq⟩ := hp.opt
  obtain ⟨i, j, ea, eb⟩ := inv_int (.inl rfl) ht
  rw [ea, eb] at ht
  obtain ⟨h1, rfl⟩ := gd_some ht
  exact ⟨i, j, seen_int ra ea, seen_int rb eb, of_decide_eq_true h1, hq.ok hS (.int _)⟩
theorem bin_fdiv : BinI B k N sc (binaryOp .FloorDiv) (binT .fdiv) := fun X s => by
  refine ⟨_, op_fdivW, fun φ S H x y a b Q hS ra rb hp => ?_⟩
  obtain ⟨t, ht, hq⟩ := hp.opt
  obtain ⟨i, j, ea, eb⟩ := inv_int (.inr (.inl rfl)) ht
  rw [ea, eb] at ht
  obtain ⟨h1, rfl⟩ := gd_some ht
  rw [Bool.and_eq_true] at h1
  refine ⟨i, j, seen_int ra ea, seen_int rb eb, ⟨of_decide_eq_true h1.1, ?_⟩, hq.ok hS (.int _)⟩
  have := of_decide_eq_true h1.2
  unfold bits at this
  omega
theorem bin_pow : BinI B k N sc (binaryOp .Pow) (binT .pow) := fun X s => by
  refine ⟨_, op_powW, fun φ S H x y a b Q hS ra rb hp => ?_⟩
  obtain ⟨t, ht, hq⟩ := hp.opt
  obtain ⟨i, j, ea, eb⟩ := inv_int (.inr (.inr rfl)) ht
  rw [ea, eb] at ht
  obtain ⟨h1, rfl⟩ := gd_some ht
  rw [Bool.and_eq_true] at h1
  exact ⟨i, j, seen_int ra ea, seen_int rb eb, ⟨of_decide_eq_true h1.1, of_decide_eq_true h1.2⟩, hq.ok hS (.int _)⟩
theorem inv_mul {a b t : T} (h : binT .mul a b = some t) : (∃ i j, a = .int i ∧ b = .int j ∧ bits i + bits j < 900000 ∧ t = .int (i * j)) ∨
    (∃ xs n, a = .tup xs ∧ b = .int n ∧ 0 ≤ n ∧ n ≤ 1000 ∧ xs.length ≤ 1000 ∧ xs ≠ [] ∧ t = .tup (List.replicate n.toNat xs).flatten) ∨
    (∃ xs n, a = .vl xs ∧ b = .int n ∧ 0 ≤ n ∧ n ≤ 1000 ∧ xs.length ≤ 1000 ∧ t = .vl (List.replicate n.toNat xs).flatten) := by
  cases a <;> cases b <;> first
    | (cases h; done)
    | (obtain ⟨h1, rfl⟩ := gd_some h; exact .inl ⟨_, _, rfl, rfl, of_decide_eq_true h1, rfl⟩)
    | (obtain ⟨h1, rfl⟩ := gd_some h; simp only [Bool.and_eq_true, decide_eq_true_eq, Bool.not_eq_true', List.isEmpty_eq_false_iff] at h1; exact .inr (.inl ⟨_, _, rfl, rfl, h1.1.1.1, h1.1.1.2, h1.1.2, h1.2, rfl⟩))
    | (obtain ⟨h1, rfl⟩ := gd_some h; simp only [Bool.and_eq_true, decide_eq_true_eq] at h1; exact .inr (.inr ⟨_, _, rfl, rfl, h1.1.1, h1.1.2, h1.2, rfl⟩))
/-- none or one of a tuple that is not empty -/
def rFew (K : PySem.W.Frag) : R2 := fun x y H Q => ∃ l k xs, x = .ref l ∧ y = .int k ∧ SqT K H l xs ∧ xs ≠ [] ∧
  ((k = 1 ∧ Q (.ref l) H) ∨ (k = 0 ∧ ∀ p, H p = none → Q (.ref p) (upd H p (.tup []))))
theorem few_mul {l : Addr} {its : Array Value} {n : Nat} {dd : Option Addr} {sl : Array (Option Value)} {x : Int} {u : Tok} (hne : its.isEmpty = false) (hx : x = 0 ∨ x = 1) :
    Meets (Builtin.«tuple.__mul__» ⟨[.ref l, .int x u], []⟩) (fun _ R s => s.heap.get? l = some ⟨.type "tuple", dd, .seq its n, sl⟩ ∧
      (x = 1 → R (.ok (.ret (.ref l))) s) ∧ (x = 0 → R (.ok (.ret (.ref s.heap.objs.size))) { s with heap := s.heap.push { cls := .type "tuple", data := .seq #[] } })) :=
  .of_wp fun prog w A R s h => by
    obtain ⟨hp, g, d, tk, os⟩ := s
    obtain ⟨hl, h1, h0⟩ := h
    have f1 := AutoSeq1.idx_int
    rcases hx with rfl | rfl
    · wp_walk using wpAny_loadPart' hl
      all_goals try (refine wpAny_ite_false (by rw [hne]; decide) ?_; wp_walk using wpAny_loadPart' hl)
      exact ⟨_, rfl, h0 rfl⟩
    · wp_walk using wpAny_loadPart' hl
      exact ⟨_, rfl, h1 rfl⟩
theorem op_few {X : Cx} : OpR X (binaryOp .Mult) (rFew X.K) := fun pins s σ H x y v u Q I rx ry h => by
  obtain ⟨l, k, xs, rfl, rfl, hT, hne, q⟩ := h
  cases rx
  obtain ⟨t, rfl⟩ := ry
  obtain ⟨its, r, ⟨⟨cls, dd, data, sl⟩, ho, hc, n, hd⟩, hs⟩ := I.tuple hT
  simp only at hc hd
  subst hc hd
  have hi : its.toArray.isEmpty = false := by
    cases r with
    | nil => exact absurd rfl hne
    | cons a b => rfl
  have hk : k = 0 ∨ k = 1 := by rcases q with ⟨q, _⟩ | ⟨q, _⟩ <;> simp [q]
  refine wpAny_binaryOp_repeat_ref (T := "tuple") (U := "int") (by decide) ⟨_, ho, rfl⟩ (fun z => typeIs_int z k t) noFill_tuple_mul F.fills_int_mul F.slot_int_rmul repeat_tuple F.slot_int_index.lookup
    (call_meets F.slot_int_rmul (typeIs_int s k t) F.entry_int_rmul (F.args_int_rmul_2 _ _) (int_rmul_tuple k t l its.toArray n dd sl) ⟨ho, rfl, ⟨_, ho, rfl⟩, ?_⟩)
  refine call_meets F.slot_tuple_mul ⟨_, ho, rfl⟩ F.entry_tuple_mul (F.args_tuple_mul_2 _ _) (few_mul (dd := dd) (n := n) (sl := sl) hi hk) ⟨ho, fun e => ?_, fun e => ?_⟩
  · rcases q with ⟨_, q⟩ | ⟨q, _⟩
    · exact ⟨.ref l, H, I, rfl, q⟩
    · omega
  · rcases q with ⟨q, _⟩ | ⟨_, q⟩
    · omega
    · refine ⟨.ref s.heap.objs.size, _, I.laid (t' := s.toks) (o := .tup []) (fun b ob z => Heap.get?_push_of_some _ z) (Nat.le_refl _) ?_, rfl, q _ (I.hok.fresh (Nat.le_refl _))⟩
      exact ⟨by simp, [], .nil, IsTup.new _ _⟩
theorem bin_mul : BinI B k N sc (binaryOp .Mult) (binT .mul) := fun X s => by
  refine ⟨_, OpR.or op_few (OpR.or op_mulW (OpR.or op_repT op_rep)), fun φ S H x y a b Q hS ra rb hp => ?_⟩
  obtain ⟨t, ht, hq⟩ := hp.opt
  by_cases few : ∃ xs n, vw S a = .tup xs ∧ vw S b = .int n ∧ (n = 0 ∨ n = 1)
  · obtain ⟨xs, n, ea, eb, hn⟩ := few
    obtain ⟨p, vs, rfl, h1, q1⟩ := seen_tup ra ea
    have h5 : xs ≠ [] := by
      rw [ea, eb] at ht
      obtain ⟨h, _⟩ := gd_some ht
      simp only [Bool.and_eq_true, Bool.not_eq_true', List.isEmpty_eq_false_iff] at h
      exact h.2
    rw [ea, eb] at ht
    obtain ⟨_, rfl⟩ := gd_some ht
    refine .inl ⟨p, n, vs, rfl, seen_int rb eb, by rw [s.hK]; exact h1, fun z => by subst z; cases q1; exact h5 rfl, ?_⟩
    rcases hn with rfl | rfl
    · exact .inr ⟨rfl, post_tup hq hS .nil⟩
    · refine .inl ⟨rfl, ?_⟩
      have e2 : vw S a = a := by
        rcases vw_cases S a with q | ⟨l, rfl, zs, _, q⟩
        · exact q
        · rw [q] at ea; cases ea
      rw [e2] at ea
      subst ea
      have e3 : (List.replicate (Int.toNat 1) xs).flatten = xs := by simp
      rw [e3] at hq
      exact hq.ok hS ra
  refine .inr ?_
  rcases inv_mul ht with ⟨i, j, ea, eb, hz, rfl⟩ | ⟨xs, n, ea, eb, h2', h3, h4, h5, rfl⟩ | ⟨xs, n, ea, eb, h2, h3, h4, rfl⟩
  · exact .inl ⟨i, j, seen_int ra ea, seen_int rb eb, CMulW.of hz, hq.ok hS (.int _)⟩
  · have h2 : 2 ≤ n := by
      have : n ≠ 0 := fun z => few ⟨xs, n, ea, eb, .inl z⟩
      have : n ≠ 1 := fun z => few ⟨xs, n, ea, eb, .inr z⟩
      omega
    obtain ⟨p, vs, rfl, h1, q1⟩ := seen_tup ra ea
    refine .inr (.inl ⟨p, n, vs, rfl, seen_int rb eb, by rw [s.hK]; exact h1, ?_, h2, h3, by rw [q1.length]; exact h4, post_tup hq hS (q1.flatrep _)⟩)
    intro z
    subst z
    cases q1
    exact h5 rfl
  · obtain ⟨p, vs, rfl, h1, q1⟩ := seen_list hS ra ea
    refine .inr (.inr ⟨p, n, vs, rfl, seen_int rb eb, h1, by omega, by omega, ?_, post_lst hq hS (q1.flatrep _)⟩)
    rw [q1.length, sizeLine_eq]
    have a1 : xs.length * n.toNat ≤ 1000 * 1000 := Nat.mul_le_mul h4 (by omega)
    omega
theorem ie_neg {a : Expr} {ma : Env → Sto → R T} {pos : Pos} (ha : IE B k N sc a ma) : IE B k N sc (.UnaryOp .USub a pos) (fun ρ S => (ma ρ S).bind fun x S => R.opt (unN x) S) := fun X s => by
  refine PE.imp (pe_un un_neg (ha X s)) fun σ H Q ⟨φ, ρ, S, hS, hE, hp⟩ => ?_
  refine ⟨φ, ρ, S, hS, hE, hp.bind fun t S1 φ1 H1 v _ e1 hS1 rv hp1 => ?_⟩
  obtain ⟨t', ht, hp1⟩ := hp1.opt
  cases rv with
  | int i => cases ht; exact ⟨i, rfl, hp1.ok hS1 (.int _)⟩
  | _ => cases ht

/-! ### data: == and in -/
mutual
theorem dp_of {φ : List Addr} {H : Hp} : ∀ {v : V} {t : T}, Rep B.K B.mg B.hid φ H v t → t.flat = true → Dp B.K H v t.dat
  | _, _, .non, _ => .non
  | _, _, .bl b, _ => .bl b
  | _, _, .int i, _ => .int i
  | _, _, .str x, _ => .str x
  | _, _, .tup h r, f => .tup h.sq (dpAll_of r f)
  | _, _, .vl h n r, f => .lst (.of h) (dpAll_of r f)
  | _, _, .scr h r, f => nomatch f
  | _, _, .vd0 h n, f => nomatch f
  | _, _, .vd h z n r q, f => nomatch f
  | _, _, .loc h, f => nomatch f
  | _, _, .ty n, f => nomatch f
  | _, _, .gl h, f => nomatch f
theorem dpAll_of {φ : List Addr} {H : Hp} : ∀ {vs : List V} {ts : List T}, Reps B.K B.mg B.hid φ H vs ts → T.flatL ts = true → DpAll B.K H vs (T.datL ts)
  | _, _, .nil, _ => .nil
  | _, _, .cons h r, f => by
    have f' := Bool.and_eq_true_iff.mp f
    exact .cons (dp_of h f'.1) (dpAll_of r f'.2)
end
mutual
theorem canLay_of : ∀ {t : T}, t.flat = true → t.dat.canLay0 = true
  | .non, _ => rfl
  | .bl b, _ => rfl
  | .int i, _ => rfl
  | .str x, f => f
  | .tup xs, f => canLayL_of (ts := xs) f
  | .vl xs, f => canLayL_of (ts := xs) f
  | .vd _ _, f => nomatch f
  | .scr _, f => nomatch f
  | .loc _, f => nomatch f
  | .ty _, f => nomatch f
  | .gl _, f => nomatch f
theorem canLayL_of : ∀ {ts : List T}, T.flatL ts = true → PyData.canLayAll0 (T.datL ts) = true
  | [], _ => rfl
  | t :: ts, f => by
    have f' := Bool.and_eq_true_iff.mp f
    show (t.dat.canLay0 && PyData.canLayAll0 (T.datL ts)) = true
    rw [canLay_of f'.1, canLayL_of f'.2]; rfl
end
end
end Px
end
section
set_option linter.all false
set_option maxRecDepth 100000
/-! Px5: comparisons. -/
namespace Px
open PySem PySem.Spec PyProof.Rows L2
section
variable {X : Cx}
def rEqF (K : PySem.W.Frag) : R2 := fun x y H Q => ∃ d e, Dp K H x d ∧ Dp K H y e ∧ d.canLay0 = true ∧ e.canLay0 = true ∧ min d.depth e.depth ≤ 60 ∧ Q (.bl (PyData.eqv d e)) H
def rNeF (K : PySem.W.Frag) : R2 := fun x y H Q => ∃ d e, Dp K H x d ∧ Dp K H y e ∧ d.canLay0 = true ∧ e.canLay0 = true ∧ min d.depth e.depth ≤ 60 ∧ Q (.bl (!PyData.eqv d e)) H
theorem op_eqF (hu : X.A.units + 64 < cLine) : OpR X (compareOp .Eq) (rEqF X.K) := by
  intro pins s σ H x y v u Q I rx ry h
  obtain ⟨d, e, hd, he, sd, se, z, q⟩ := h
  obtain ⟨as, r1⟩ := Dp.reads I d x v hd rx
  obtain ⟨bs, r2⟩ := Dp.reads I e y u he ry
  exact SeqAt.compareEq_reads r1 r2 sd se (by omega) ⟨.bl _, H, I, rfl, q⟩
theorem op_neF (hu : X.A.units + 64 < cLine) : OpR X (compareOp .NotEq) (rNeF X.K) := by
  intro pins s σ H x y v u Q I rx ry h
  obtain ⟨d, e, hd, he, sd, se, z, q⟩ := h
  obtain ⟨as, r1⟩ := Dp.reads I d x v hd rx
  obtain ⟨bs, r2⟩ := Dp.reads I e y u he ry
  exact SeqAt.compareNe_reads r1 r2 sd se (by omega) ⟨.bl _, H, I, rfl, q⟩
/-- beside an empty one -/
def rEqE (K : PySem.W.Frag) (neg : Bool) : R2 := fun x y H Q => ∃ a b xs, x = .ref a ∧ y = .ref b ∧ ((SqT K H a xs ∧ SqT K H b []) ∨ (SqL K H a xs ∧ SqL K H b [])) ∧ Q (.bl (xs.isEmpty != neg)) H
theorem isTuple_of {h : Heap} {a : Addr} {its : Array Value} (t : IsTup h a its) : h.IsTuple a its := t
theorem op_eqE (hu : X.A.units + 64 < cLine) : OpR X (compareOp .Eq) (rEqE X.K false) := by
  intro pins s σ H x y v u Q I rx ry h
  obtain ⟨a, b, xs, rfl, rfl, hh, q⟩ := h
  cases rx
  cases ry
  rcases hh with ⟨ha, hb⟩ | ⟨ha, hb⟩
  · obtain ⟨its, r1, t1, _⟩ := I.tuple ha
    obtain ⟨its2, r2, t2, _⟩ := I.tuple hb
    cases r2
    refine SeqAt.eq_tupleAt (e := fun _ => true) (isTuple_of t1) (isTuple_of t2) (by omega) (fun j _ h2 => absurd h2 (Nat.not_lt_zero _)) ⟨.bl _, H, I, rfl, ?_⟩
    have e : ((List.range (min its.toArray.size ([] : List Value).toArray.size)).all (fun _ => true) && its.toArray.size == ([] : List Value).toArray.size) = (xs.isEmpty != false) := by
      cases r1 <;> simp
    rw [e]; exact q
  · obtain ⟨its, r1, t1, _⟩ := I.list ha
    obtain ⟨its2, r2, t2, _⟩ := I.list hb
    cases r2
    cases r1 with
    | nil => exact SeqAt.eq_listAt (e := fun _ => true) t1.isList t2.isList rfl (by omega) (fun j h1 h2 => absurd h2 (Nat.not_lt_zero _)) ⟨.bl _, H, I, rfl, by simpa using q⟩
    | cons r t => exact SeqAt.eq_list_lengthsAt t1.isList t2.isList (by simp) (by omega) ⟨.bl _, H, I, rfl, by simpa using q⟩
theorem op_neE (hu : X.A.units + 64 < cLine) : OpR X (compareOp .NotEq) (rEqE X.K true) := by
  intro pins s σ H x y v u Q I rx ry h
  obtain ⟨a, b, xs, rfl, rfl, hh, q⟩ := h
  cases rx
  cases ry
  rcases hh with ⟨ha, hb⟩ | ⟨ha, hb⟩
  · obtain ⟨its, r1, t1, _⟩ := I.tuple ha
    obtain ⟨its2, r2, t2, _⟩ := I.tuple hb
    cases r2
    refine SeqAt.RcNeAt.tuples (e := fun _ => true) (isTuple_of t1) (isTuple_of t2) (by omega) (fun j _ h2 => absurd h2 (Nat.not_lt_zero _)) _ _ _ _ ⟨.bl _, H, I, rfl, ?_⟩
    cases r1 <;> simpa using q
  · obtain ⟨its, r1, t1, _⟩ := I.list ha
    obtain ⟨its2, r2, t2, _⟩ := I.list hb
    cases r2
    cases r1 with
    | nil => exact SeqAt.RcNeAt.lists (e := fun _ => true) t1.isList t2.isList rfl (by omega) (fun j h1 h2 => absurd h2 (Nat.not_lt_zero _)) _ _ _ _ ⟨.bl _, H, I, rfl, by simpa using q⟩
    | cons r t => exact SeqAt.RcNeAt.lists_lengths t1.isList t2.isList (by simp) (by omega) _ _ _ _ ⟨.bl _, H, I, rfl, by simpa using q⟩
/-- x in xs: items that are data -/
def rInF (K : PySem.W.Frag) (neg : Bool) : R2 := fun x y H Q => ∃ p xs d ds, y = .ref p ∧ (SqL K H p xs ∨ SqT K H p xs) ∧ Dp K H x d ∧ DpAll K H xs ds ∧ d.canLay0 = true ∧ PyData.canLayAll0 ds = true ∧ d.depth ≤ 60 ∧
  Q (.bl (ds.any (fun e => PyData.eqv e d) != neg)) H
open Classical in
noncomputable def eqRd (h : Heap) (d : PyData) (y : Value) : Bool := if ∃ e as, Reads h y e as ∧ e.canLay0 = true ∧ PyData.eqv e d = true then true else false
theorem eqRd_eq {h : Heap} {d e : PyData} {y : Value} {as : List Addr} (r : Reads h y e as) (hc : e.canLay0 = true) : eqRd h d y = PyData.eqv e d := by
  unfold eqRd
  by_cases q : PyData.eqv e d = true
  · rw [if_pos ⟨e, as, r, hc, q⟩, q]
  · rw [if_neg, Bool.eq_false_iff.mpr q]
    rintro ⟨e', as', r', hc', q'⟩
    have := SeqAt.Reads.unique e e' y as as' hc r r'
    rw [this] at q
    exact q q'
theorem in_items {A : Around} {s : Shared} {d : PyData} {v : Value} {bs : List Addr} (rv : Reads s.heap v d bs) (hd : d.canLay0 = true) (hz : A.units + 60 < cLine) (hdd : d.depth ≤ 60) : ∀ {us : List Value} {ds : List PyData} {as : List Addr}, ReadsAll s.heap us ds as →
    PyData.canLayAll0 ds = true → (∀ y ∈ us, SeqAt.EqAt A s y v (eqRd s.heap d y)) ∧ us.any (eqRd s.heap d) = ds.any fun e => PyData.eqv e d
  | _, _, _, .nil, _ => ⟨fun y hy => (by cases hy), rfl⟩
  | _, _, _, .cons (d := e) r rs, hc => by
    have hc' := Bool.and_eq_true_iff.mp hc
    obtain ⟨h1, h2⟩ := in_items rv hd hz hdd rs hc'.2
    refine ⟨fun y hy => ?_, ?_⟩
    · rcases List.mem_cons.mp hy with rfl | hy
      · rw [eqRd_eq r hc'.1]
        exact SeqAt.eqAt_reads e d A s _ v _ _ r rv hc'.1 hd (by omega)
      · exact h1 y hy
    · rw [List.any_cons, List.any_cons, eqRd_eq r hc'.1, h2]
theorem op_inF (hu : X.A.units + 64 < cLine) : OpR X (compareOp .In) (rInF X.K false) := by
  intro pins s σ H x y v u Q I rx ry h
  obtain ⟨p, xs, d, ds, rfl, hq, hd, hds, cd, cds, z, q⟩ := h
  cases ry
  obtain ⟨bs, rv⟩ := Dp.reads I d x v hd rx
  have hu1 : X.A.in1.units + 60 < cLine := by show X.A.units + 1 + 60 < cLine; omega
  rcases hq with hq | hq
  · obtain ⟨its, r, pl, hz⟩ := I.list hq
    obtain ⟨as, ra⟩ := Dp.readsAll I ds xs its hds r
    obtain ⟨h1, h2⟩ := in_items (A := X.A.in1) rv cd hu1 z ra cds
    refine SeqAt.in_listAt _ pl.isList (fun w hw => h1 w (by simpa using hw)) ⟨.bl _, H, I, rfl, ?_⟩
    rw [show its.toArray.any (eqRd s.heap d) = its.any (eqRd s.heap d) by simp, h2]
    simpa using q
  · obtain ⟨its, r, pl, hz⟩ := I.tuple hq
    obtain ⟨as, ra⟩ := Dp.readsAll I ds xs its hds r
    obtain ⟨h1, h2⟩ := in_items (A := X.A.in1) rv cd hu1 z ra cds
    refine SeqAt.in_tupleAt _ (isTuple_of pl) (fun w hw => h1 w (by simpa using hw)) ⟨.bl _, H, I, rfl, ?_⟩
    rw [show its.toArray.any (eqRd s.heap d) = its.any (eqRd s.heap d) by simp, h2]
    simpa using q
theorem op_ninF (hu : X.A.units + 64 < cLine) : OpR X (compareOp .NotIn) (rInF X.K true) := by
  intro pins s σ H x y v u Q I rx ry h
  obtain ⟨p, xs, d, ds, rfl, hq, hd, hds, cd, cds, z, q⟩ := h
  cases ry
  obtain ⟨bs, rv⟩ := Dp.reads I d x v hd rx
  have hu1 : X.A.in1.units + 60 < cLine := by show X.A.units + 1 + 60 < cLine; omega
  rcases hq with hq | hq
  · obtain ⟨its, r, pl, hz⟩ := I.list hq
    obtain ⟨as, ra⟩ := Dp.readsAll I ds xs its hds r
    obtain ⟨h1, h2⟩ := in_items (A := X.A.in1) rv cd hu1 z ra cds
    refine SeqAt.notIn_listAt _ pl.isList (fun w hw => h1 w (by simpa using hw)) ⟨.bl _, H, I, rfl, ?_⟩
    rw [show its.toArray.any (eqRd s.heap d) = its.any (eqRd s.heap d) by simp, h2]
    simpa using q
  · obtain ⟨its, r, pl, hz⟩ := I.tuple hq
    obtain ⟨as, ra⟩ := Dp.readsAll I ds xs its hds r
    obtain ⟨h1, h2⟩ := in_items (A := X.A.in1) rv cd hu1 z ra cds
    refine SeqAt.notIn_tupleAt _ (isTuple_of pl) (fun w hw => h1 w (by simpa using hw)) ⟨.bl _, H, I, rfl, ?_⟩
    rw [show its.toArray.any (eqRd s.heap d) = its.any (eqRd s.heap d) by simp, h2]
    simpa using q
end

section
variable {B : Base} {k : Nat} {N : List Str} {sc : Scp}
theorem vw_flat {S : Sto} {t : T} {φ : List Addr} {H : Hp} {v : V} (hS : RelS B.K B.mg B.hid φ S H) (h : B.rep φ H v t) (f : (vw S t).flat = true) : Dp B.K H v (vw S t).dat := by
  rcases vw_cases S t with q | ⟨l, rfl, xs, hl, q⟩
  · rw [q] at f ⊢
    exact dp_of h f
  · rw [q] at f ⊢
    obtain ⟨a, vs, rfl, h1, h2⟩ := seen_list hS h q
    exact .lst (.of h1) (dpAll_of h2 f)
theorem inv_eqv {a b : T} {c : Bool} (h : eqv2 a b = some c) : (a.flat = true ∧ b.flat = true ∧ min a.dat.depth b.dat.depth ≤ 60 ∧ c = a.dat.eqv b.dat) ∨ (∃ xs, a = .tup xs ∧ b = .tup [] ∧ c = xs.isEmpty) ∨ (∃ xs, a = .vl xs ∧ b = .vl [] ∧ c = xs.isEmpty) ∨ (∃ x y, a = .str x ∧ b = .str y ∧ c = decide (x = y)) := by
  have key : eqT a b = some c → a.flat = true ∧ b.flat = true ∧ min a.dat.depth b.dat.depth ≤ 60 ∧ c = a.dat.eqv b.dat := fun h => by
    obtain ⟨h1, h2⟩ := gd_some h
    simp only [Bool.and_eq_true, decide_eq_true_eq] at h1
    exact ⟨h1.1.1, h1.1.2, h1.2, h2.symm⟩
  unfold eqv2 at h
  split at h
  · cases h; exact .inr (.inl ⟨_, rfl, rfl, rfl⟩)
  · cases h; exact .inr (.inr (.inl ⟨_, rfl, rfl, rfl⟩))
  · cases h; exact .inr (.inr (.inr ⟨_, _, rfl, rfl, rfl⟩))
  · exact .inl (key h)
theorem reps_empty {φ : List Addr} {H : Hp} {vs : List V} {ts : List T} (r : B.reps φ H vs ts) : vs.isEmpty = ts.isEmpty := by cases r <;> rfl
theorem reps_nil {φ : List Addr} {H : Hp} {vs : List V} (r : B.reps φ H vs []) : vs = [] := by cases r; rfl
theorem cmp_eq : CmpI B k N sc (compareOp .Eq) (cmpT .eq) := fun X s => by
  have hu := s.room.units
  refine ⟨_, OpR.or (OpR.or (op_eqF hu) (op_eqE hu)) op_eq, fun φ S H x y a b Q hS ra rb hp => ?_⟩
  obtain ⟨c, hc, hq⟩ := hp.opt
  have hc' : eqv2 (vw S a) (vw S b) = some c := hc
  rw [s.hK]
  rcases inv_eqv hc' with ⟨f1, f2, z, rfl⟩ | ⟨xs, ea, eb, rfl⟩ | ⟨xs, ea, eb, rfl⟩ | ⟨x, y, ea, eb, rfl⟩
  · exact .inl (.inl ⟨_, _, vw_flat hS ra f1, vw_flat hS rb f2, canLay_of f1, canLay_of f2, z, hq.ok hS rfl⟩)
  · obtain ⟨p, vs, rfl, h1, q1⟩ := seen_tup ra ea
    obtain ⟨p', ws, rfl, h2, q2⟩ := seen_tup rb eb
    have e2 := reps_nil q2
    subst e2
    exact .inl (.inr ⟨p, p', vs, rfl, rfl, .inl ⟨h1, h2⟩, hq φ H _ Ext.refl hS (by rw [reps_empty q1]; simp)⟩)
  · obtain ⟨p, vs, rfl, h1, q1⟩ := seen_list hS ra ea
    obtain ⟨p', ws, rfl, h2, q2⟩ := seen_list hS rb eb
    have e2 := reps_nil q2
    subst e2
    exact .inl (.inr ⟨p, p', vs, rfl, rfl, .inr ⟨.of h1, .of h2⟩, hq φ H _ Ext.refl hS (by rw [reps_empty q1]; simp)⟩)
  · rw [seen_str ra ea, seen_str rb eb]
    exact .inr ⟨rfl, hq φ H _ Ext.refl hS (by simp)⟩
theorem cmp_ne : CmpI B k N sc (compareOp .NotEq) (cmpT .ne) := fun X s => by
  have hu := s.room.units
  refine ⟨_, OpR.or (OpR.or (op_neF hu) (op_neE hu)) op_ne, fun φ S H x y a b Q hS ra rb hp => ?_⟩
  obtain ⟨c, hc, hq⟩ := hp.opt
  obtain ⟨c', hc', rfl⟩ := Option.map_eq_some_iff.mp (show (eqv2 (vw S a) (vw S b)).map (!·) = some c from hc)
  rw [s.hK]
  rcases inv_eqv hc' with ⟨f1, f2, z, rfl⟩ | ⟨xs, ea, eb, rfl⟩ | ⟨xs, ea, eb, rfl⟩ | ⟨x, y, ea, eb, rfl⟩
  · exact .inl (.inl ⟨_, _, vw_flat hS ra f1, vw_flat hS rb f2, canLay_of f1, canLay_of f2, z, hq.ok hS rfl⟩)
  · obtain ⟨p, vs, rfl, h1, q1⟩ := seen_tup ra ea
    obtain ⟨p', ws, rfl, h2, q2⟩ := seen_tup rb eb
    have e2 := reps_nil q2
    subst e2
    exact .inl (.inr ⟨p, p', vs, rfl, rfl, .inl ⟨h1, h2⟩, hq φ H _ Ext.refl hS (by rw [reps_empty q1]; simp)⟩)
  · obtain ⟨p, vs, rfl, h1, q1⟩ := seen_list hS ra ea
    obtain ⟨p', ws, rfl, h2, q2⟩ := seen_list hS rb eb
    have e2 := reps_nil q2
    subst e2
    exact .inl (.inr ⟨p, p', vs, rfl, rfl, .inr ⟨.of h1, .of h2⟩, hq φ H _ Ext.refl hS (by rw [reps_empty q1]; simp)⟩)
  · rw [seen_str ra ea, seen_str rb eb]
    exact .inr ⟨rfl, hq φ H _ Ext.refl hS (by simp)⟩
theorem datL_any (x : T) : ∀ ys : List T, (T.datL ys).any (fun e => PyData.eqv e x.dat) = ys.any fun y => y.dat.eqv x.dat
  | [] => rfl
  | y :: ys => by
    show ((y.dat.eqv x.dat) || (T.datL ys).any fun e => PyData.eqv e x.dat) = _
    rw [datL_any x ys]; rfl
theorem in_post {neg : Bool} {φ : List Addr} {S : Sto} {H : Hp} {x y : V} {a : T} {ys : List T} {Q : VK} {c : Bool} (hS : RelS B.K B.mg B.hid φ S H) (ra : B.rep φ H x a) (hy : ∃ p vs, y = .ref p ∧ (SqL B.K H p vs ∨ SqT B.K H p vs) ∧ B.reps φ H vs ys)
    (hc : inT (vw S a) ys = some c) (q : Q (.bl (c != neg)) H) : rInF B.K neg x y H Q := by
  obtain ⟨p, vs, rfl, h1, h2⟩ := hy
  obtain ⟨f, rfl⟩ := gd_some hc
  simp only [Bool.and_eq_true, decide_eq_true_eq] at f
  exact ⟨p, vs, _, _, rfl, h1, vw_flat hS ra f.1.1, dpAll_of h2 f.1.2, canLay_of f.1.1, canLayL_of f.1.2, f.2, by rw [datL_any]; exact q⟩
theorem inv_in {a b : T} {c : Bool} (h : inY a b = some c) : (∃ i j, a = .str i ∧ b = .str j ∧ c = !(Builtin.Str.occurrences j i 0 j.length 1).isEmpty) ∨ (∃ ys, (b = .tup ys ∨ b = .vl ys) ∧ inT a ys = some c) := by
  cases b with
  | tup ys => exact .inr ⟨ys, .inl rfl, h⟩
  | vl ys => exact .inr ⟨ys, .inr rfl, h⟩
  | str j =>
    cases a with
    | str i => cases h; exact .inl ⟨i, j, rfl, rfl, rfl⟩
    | _ => cases h
  | _ => cases h
theorem seen_seq {φ : List Addr} {S : Sto} {H : Hp} {y : V} {b : T} {ys : List T} (hS : RelS B.K B.mg B.hid φ S H) (rb : B.rep φ H y b) (eb : vw S b = .tup ys ∨ vw S b = .vl ys) : ∃ p vs, y = .ref p ∧ (SqL B.K H p vs ∨ SqT B.K H p vs) ∧ B.reps φ H vs ys := by
  rcases eb with eb | eb
  · obtain ⟨p, vs, rfl, h1, q1⟩ := seen_tup rb eb
    exact ⟨p, vs, rfl, .inr h1, q1⟩
  · obtain ⟨p, vs, rfl, h1, q1⟩ := seen_list hS rb eb
    exact ⟨p, vs, rfl, .inl (.of h1), q1⟩
theorem cmp_in : CmpI B k N sc (compareOp .In) (cmpT .in_) := fun X s => by
  have hu := s.room.units
  refine ⟨_, OpR.or op_in_str (op_inF hu), fun φ S H x y a b Q hS ra rb hp => ?_⟩
  obtain ⟨c, hc, hq⟩ := hp.opt
  rw [s.hK]
  rcases inv_in (show inY _ _ = some c from hc) with ⟨i, j, ea, eb, rfl⟩ | ⟨ys, eb, hi⟩
  · exact .inl ⟨i, j, seen_str ra ea, seen_str rb eb, hq.ok hS rfl⟩
  · exact .inr (in_post hS ra (seen_seq hS rb eb) hi (by rw [Bool.bne_false]; exact hq.ok hS rfl))
theorem cmp_nin : CmpI B k N sc (compareOp .NotIn) (cmpT .nin) := fun X s => by
  have hu := s.room.units
  refine ⟨_, OpR.or op_notin_str (op_ninF hu), fun φ S H x y a b Q hS ra rb hp => ?_⟩
  obtain ⟨c, hc, hq⟩ := hp.opt
  obtain ⟨c', hc', rfl⟩ := Option.map_eq_some_iff.mp (show (inY (vw S a) (vw S b)).map (!·) = some c from hc)
  rw [s.hK]
  rcases inv_in hc' with ⟨i, j, ea, eb, rfl⟩ | ⟨ys, eb, hi⟩
  · exact .inl ⟨i, j, seen_str ra ea, seen_str rb eb, hq.ok hS rfl⟩
  · exact .inr (in_post hS ra (seen_seq hS rb eb) hi (by rw [Bool.bne_true]; exact hq.ok hS rfl))
theorem cmp_ii {op : COp} {g : Int → Int → Bool} {cop : CmpOp} (ho : ∀ X : Cx, OpR X (compareOp cop) (rI0 fun i j => .bl (g i j))) (hf : ∀ a b c, cmpT op a b = some c → ∃ i j, a = .int i ∧ b = .int j ∧ c = g i j) : CmpI B k N sc (compareOp cop) (cmpT op) := fun X s => by
  refine ⟨_, ho X, fun φ S H x y a b Q hS ra rb hp => ?_⟩
  obtain ⟨c, hc, hq⟩ := hp.opt
  obtain ⟨i, j, ea, eb, rfl⟩ := hf _ _ _ hc
  exact ⟨i, j, seen_int ra ea, seen_int rb eb, hq.ok hS rfl⟩
theorem cmp_le : CmpI B k N sc (compareOp .LtE) (cmpT .le) := cmp_ii (g := fun i j => decide (i ≤ j)) (fun X => op_le) fun a b c h => by
  cases a <;> cases b <;> first | (cases h; done) | (cases h; exact ⟨_, _, rfl, rfl, rfl⟩)
theorem cmp_gt : CmpI B k N sc (compareOp .Gt) (cmpT .gt) := cmp_ii (g := fun i j => decide (j < i)) (fun X => op_gt) fun a b c h => by
  cases a <;> cases b <;> first | (cases h; done) | (cases h; exact ⟨_, _, rfl, rfl, rfl⟩)
theorem cmp_ge : CmpI B k N sc (compareOp .GtE) (cmpT .ge) := cmp_ii (g := fun i j => decide (j ≤ i)) (fun X => op_ge) fun a b c h => by
  cases a <;> cases b <;> first | (cases h; done) | (cases h; exact ⟨_, _, rfl, rfl, rfl⟩)
theorem cmp_lt : CmpI B k N sc (compareOp .Lt) (cmpT .lt) := fun X s => by
  refine ⟨_, OpR.or op_lt op_lt_str, fun φ S H x y a b Q hS ra rb hp => ?_⟩
  obtain ⟨c, hc, hq⟩ := hp.opt
  have key : (∃ i j, vw S a = .int i ∧ vw S b = .int j ∧ c = decide (i < j)) ∨ (∃ i j, vw S a = .str i ∧ vw S b = .str j ∧ c = ltS i j) := by
    cases ea : vw S a <;> cases eb : vw S b <;> first
      | (rw [ea, eb] at hc; cases hc; done)
      | (rw [ea, eb] at hc; cases hc; exact .inl ⟨_, _, rfl, rfl, rfl⟩)
      | (rw [ea, eb] at hc; cases hc; exact .inr ⟨_, _, rfl, rfl, rfl⟩)
  rcases key with ⟨i, j, ea, eb, rfl⟩ | ⟨i, j, ea, eb, rfl⟩
  · exact .inl ⟨i, j, seen_int ra ea, seen_int rb eb, hq.ok hS rfl⟩
  · exact .inr ⟨i, j, seen_str ra ea, seen_str rb eb, hq.ok hS rfl⟩
/-- is: seen values -/
theorem vw_non {S : Sto} {t : T} (e : vw S t = .non) : t = .non := by
  rcases vw_cases S t with q | ⟨l, rfl, xs, hl, q⟩
  · rw [q] at e; exact e
  · rw [q] at e; cases e
theorem inv_is {a b : T} {c : Bool} (h : isT a b = some c) : (b = .non ∧ (c = true ↔ a = .non)) ∨ (∃ i j, a = .bl i ∧ b = .bl j ∧ c = decide (i = j)) := by
  cases a <;> cases b <;> first
    | (cases h; done)
    | (cases h; exact .inl ⟨rfl, by simp⟩)
    | (cases h; exact .inr ⟨_, _, rfl, rfl, rfl⟩)
theorem is_non {S : Sto} {φ : List Addr} {H : Hp} {v : V} {t : T} {c : Bool} (hS : RelS B.K B.mg B.hid φ S H) (h : B.rep φ H v t) (e : c = true ↔ vw S t = .non) : decide (v = .non) = c := by
  have e1 : v = .non ↔ vw S t = .non := by
    constructor
    · rintro rfl; cases h; rfl
    · intro q; exact seen_non h q
  rw [Bool.eq_iff_iff, decide_eq_true_eq, e1, e]
theorem cmp_is : CmpI B k N sc (compareOp .Is) (cmpT .is_) := fun X s => by
  refine ⟨_, OpR.or op_isN op_isBl, fun φ S H x y a b Q hS ra rb hp => ?_⟩
  obtain ⟨c, hc, hq⟩ := hp.opt
  rcases inv_is (show isT _ _ = some c from hc) with ⟨eb, e⟩ | ⟨i, j, ea, eb, rfl⟩
  · exact .inl ⟨seen_non rb eb, by rw [is_non hS ra e]; exact hq.ok hS rfl⟩
  · exact .inr ⟨i, j, seen_bl ra ea, seen_bl rb eb, hq.ok hS rfl⟩
theorem cmp_isn : CmpI B k N sc (compareOp .IsNot) (cmpT .isn) := fun X s => by
  refine ⟨_, OpR.or op_notN op_notBl, fun φ S H x y a b Q hS ra rb hp => ?_⟩
  obtain ⟨c, hc, hq⟩ := hp.opt
  obtain ⟨c', hc', rfl⟩ := Option.map_eq_some_iff.mp (show (isT (vw S a) (vw S b)).map (!·) = some c from hc)
  rcases inv_is hc' with ⟨eb, e⟩ | ⟨i, j, ea, eb, rfl⟩
  · exact .inl ⟨seen_non rb eb, by rw [is_non hS ra e]; exact hq.ok hS rfl⟩
  · exact .inr ⟨i, j, seen_bl ra ea, seen_bl rb eb, hq.ok hS rfl⟩
end
end Px
end
section
set_option linter.all false
set_option maxRecDepth 100000
/-! Px6: arguments, displays, subscripts, calls of what is built in. -/
namespace Px
open PySem PySem.Spec PyProof.Rows L2

def isStar : Expr → Bool
  | .Starred _ _ => true
  | _ => false
theorem star_head {e : Expr} {es : List Expr} {env : PySem.Env} (h : isStar e = false) : starEach (e :: es) env = (false, eval e env) :: starEach es env := by
  cases e <;> first | rfl | (cases h)
theorem star_none {env : PySem.Env} {pos : Pos} : ∀ {es : List Expr}, es.any isStar = false → (backTo pos (starEach es env)).any (·.1) = false
  | [], _ => rfl
  | e :: es, h => by
    rw [List.any_cons, Bool.or_eq_false_iff] at h
    rw [star_head h.1]
    show ((false, _) :: backTo pos (starEach es env)).any (·.1) = false
    rw [List.any_cons, star_none h.2]
    rfl

section
variable {B : Base} {k : Nat} {N : List Str} {sc : Scp} {e : Expr} {es : List Expr} {pos : Pos}

/-! ### argument lists -/
theorem ia_nil : IA B k N sc [] (fun _ S => .ok [] S) := fun X s => PA.imp pa_nil fun σ H Q ⟨φ, ρ, S, hS, hE, hp⟩ => hp.ok hS .nil
theorem ia_cons {m : Env → Sto → R T} {ms : Env → Sto → R (List T)} (h : isStar e = false) (ha : IE B k N sc e m) (hr : IA B k N sc es ms) :
    IA B k N sc (e :: es) (fun ρ S => (m ρ S).bind fun x S => (ms ρ S).bind fun xs S => .ok (x :: xs) S) := fun X s => by
  refine PA.imp (pa_cons (ha X s) (hr X s) (star_head h)) fun σ H Q ⟨φ, ρ, S, hS, hE, hp⟩ => ?_
  refine ⟨φ, ρ, S, hS, hE, hp.bind fun t S1 φ1 H1 v _ e1 hS1 rv hp1 => ?_⟩
  refine ⟨φ1, ρ, S1, hS1, hE.ext e1, hp1.bind fun t2 S2 φ2 H2 v2 _ e2 hS2 rv2 hp2 => ?_⟩
  exact hp2.ok hS2 (.cons (rv.ext e2) rv2)

/-! ### fresh lists -/
def tF (B : Base) (m : Env → Sto → R (List T)) : TE := fun σ H Q => ∃ φ ρ S, RelS B.K B.mg B.hid φ S H ∧ RelE B.K B.mg B.hid φ H ρ σ ∧ Post B B.reps φ H (m ρ S) fun vs H1 => ∀ p, H1 p = none → Q (.ref p) (upd H1 p (.lst vs))
def IF (B : Base) (k : Nat) (N : List Str) (sc : Scp) (e : Expr) (m : Env → Sto → R (List T)) : Prop := ∀ X, Sit B k N sc X → PE X e (tF B m)
theorem IF.ie {m : Env → Sto → R (List T)} (h : IF B k N sc e m) : IE B k N sc e (fun ρ S => (m ρ S).bind fun xs S => .ok (.vl xs) S) := fun X s =>
  PE.imp (h X s) fun σ H Q ⟨φ, ρ, S, hS, hE, hp⟩ => ⟨φ, ρ, S, hS, hE, hp.bind fun t S1 φ1 H1 v _ e1 hS1 rv hp1 => post_lst hp1 hS1 rv⟩
theorem IF.new {m : Env → Sto → R (List T)} (h : IF B k N sc e m) : IE B k N sc e (fun ρ S => (m ρ S).bind fun xs S => .ok (.loc S.length) (S ++ [.lst xs])) := fun X s =>
  PE.imp (h X s) fun σ H Q ⟨φ, ρ, S, hS, hE, hp⟩ => ⟨φ, ρ, S, hS, hE, hp.bind fun t S1 φ1 H1 v _ e1 hS1 rv hp1 p hn =>
    hp1 _ _ _ (Ext.push hn) (hS1.push hn (.lst rv)) (.loc (by rw [← hS1.len, List.getElem?_append_right (Nat.le_refl _), Nat.sub_self]; rfl))⟩
theorem if_lst {ms : Env → Sto → R (List T)} (h : IA B k N sc es ms) : IF B k N sc (.List es pos) (fun ρ S => (ms ρ S).bind fun xs S => R.opt (gd (decide (xs.length ≤ lim)) xs) S) := fun X s => by
  refine PE.imp (pe_lst (h X s)) fun σ H Q ⟨φ, ρ, S, hS, hE, hp⟩ => ?_
  refine ⟨φ, ρ, S, hS, hE, hp.bind fun t S1 φ1 H1 v _ e1 hS1 rv hp1 => ?_⟩
  obtain ⟨hz, hp2⟩ := hp1.gd
  exact ⟨by rw [rv.length]; exact of_decide_eq_true hz, hp2.ok hS1 rv⟩
theorem ie_tup {ms : Env → Sto → R (List T)} {x1} (h : IA B k N sc es ms) : IE B k N sc (.Tuple es x1 pos) (fun ρ S => (ms ρ S).bind fun xs S => R.opt (gd (decide (xs.length ≤ lim)) (.tup xs)) S) := fun X s => by
  refine PE.imp (pe_tup (h X s)) fun σ H Q ⟨φ, ρ, S, hS, hE, hp⟩ => ?_
  refine ⟨φ, ρ, S, hS, hE, hp.bind fun t S1 φ1 H1 v _ e1 hS1 rv hp1 => ?_⟩
  obtain ⟨hz, hp2⟩ := hp1.gd
  exact ⟨by rw [rv.length]; exact of_decide_eq_true hz, post_tup hp2 hS1 rv⟩
/-- xs + ys of lists, fresh -/
theorem if_cat {a b : Expr} {ma mb : Env → Sto → R T} (ha : IE B k N sc a ma) (hb : IE B k N sc b mb) : IF B k N sc (.BinOp a .Add b pos)
    (fun ρ S => (ma ρ S).bind fun x S => (mb ρ S).bind fun y S => match vw S x, vw S y with | .vl xs, .vl ys => R.opt (gd (decide (xs.length + ys.length ≤ lim)) (xs ++ ys)) S | _, _ => .bad) := fun X s => by
  refine PE.imp (pe_op op_cat (ha X s) (hb X s)) fun σ H Q ⟨φ, ρ, S, hS, hE, hp⟩ => ?_
  refine ⟨φ, ρ, S, hS, hE, hp.bind fun t S1 φ1 H1 v _ e1 hS1 rv hp1 => ?_⟩
  refine ⟨φ1, ρ, S1, hS1, hE.ext e1, hp1.bind fun t2 S2 φ2 H2 v2 _ e2 hS2 rv2 hp2 => ?_⟩
  cases ea : vw S2 t <;> cases eb : vw S2 t2 <;> first
    | (rw [ea, eb] at hp2; exact hp2.elim)
    | skip
  rename_i xs ys
  rw [ea, eb] at hp2
  obtain ⟨hz, hp3⟩ := Post.gd hp2
  obtain ⟨p, vs, rfl, h1, q1⟩ := seen_list hS2 (rv.ext e2) ea
  obtain ⟨p', ws, rfl, h2, q2⟩ := seen_list hS2 rv2 eb
  exact ⟨p, p', vs, ws, rfl, rfl, h1, h2, by rw [q1.length, q2.length]; exact of_decide_eq_true hz, hp3.ok hS2 (q1.append q2)⟩

/-! ### subscripts -/
theorem reps_at {φ : List Addr} {H : Hp} {vs : List V} {ts : List T} {i : Int} {t : T} (r : B.reps φ H vs ts) (h : atI ts i = some t) : ∃ v, atI vs i = some v ∧ B.rep φ H v t := by
  unfold atI at h ⊢
  rw [r.length]
  cases e : ixN ts.length i with
  | none => rw [e] at h; cases h
  | some j =>
    rw [e] at h
    exact r.get h
theorem ie_idx {a b : Expr} {ma mb : Env → Sto → R T} (ha : IE B k N sc a ma) (hb : IE B k N sc b mb) (hx : PlainIx b) :
    IE B k N sc (.Subscript a b pos) (fun ρ S => (ma ρ S).bind fun x S => (mb ρ S).bind fun y S => R.opt (idxT (vw S x) y) S) := fun X s => by
  refine PE.imp (pe_ix ix_seq (ha X s) (hb X s) hx) fun σ H Q ⟨φ, ρ, S, hS, hE, hp⟩ => ?_
  refine ⟨φ, ρ, S, hS, hE, hp.bind fun t S1 φ1 H1 v _ e1 hS1 rv hp1 => ?_⟩
  refine ⟨φ1, ρ, S1, hS1, hE.ext e1, hp1.bind fun t2 S2 φ2 H2 v2 _ e2 hS2 rv2 hp2 => ?_⟩
  obtain ⟨t3, ht, hp3⟩ := hp2.opt
  have rv' := rv.ext e2
  rw [s.hK]
  cases t2 with
  | int i =>
    cases rv2
    cases ea : vw S2 t with
    | tup xs =>
      rw [ea] at ht
      obtain ⟨p, vs, rfl, h1, q1⟩ := seen_tup rv' ea
      obtain ⟨w, hw, rw3⟩ := reps_at q1 ht
      exact .inr (.inl ⟨p, vs, i, w, rfl, rfl, h1, hw, hp3.ok hS2 rw3⟩)
    | vl xs =>
      rw [ea] at ht
      obtain ⟨p, vs, rfl, h1, q1⟩ := seen_list hS2 rv' ea
      obtain ⟨w, hw, rw3⟩ := reps_at q1 ht
      exact .inl ⟨p, vs, i, w, rfl, rfl, .of h1, hw, hp3.ok hS2 rw3⟩
    | scr xs =>
      rw [ea] at ht
      obtain ⟨p, vs, rfl, h1, q1⟩ := seen_scr rv' ea
      obtain ⟨w, hw, rw3⟩ := reps_at q1 ht
      exact .inl ⟨p, vs, i, w, rfl, rfl, h1, hw, hp3.ok hS2 rw3⟩
    | str x =>
      rw [ea] at ht
      obtain ⟨u, hu, ht2⟩ := Option.bind_eq_some_iff.mp (show (gd (decide (x.length ≤ lim)) ()).bind (fun _ => (atI x.cps.toList i).map fun c => T.str ⟨#[c]⟩) = some t3 from ht)
      obtain ⟨hz, _⟩ := gd_some hu
      obtain ⟨c, hc, rfl⟩ := Option.map_eq_some_iff.mp ht2
      exact .inr (.inr ⟨x, i, c, seen_str rv' ea, rfl, of_decide_eq_true hz, hc, hp3.ok hS2 (.str _)⟩)
    | _ => rw [ea] at ht; cases ht
  | _ => cases ea : vw S2 t <;> (rw [ea] at ht; cases ht)

/-! ### slices -/
theorem io_none : IO B k N sc none (fun _ S => .ok none S) := fun X s => PO.imp po_none fun σ H Q ⟨φ, ρ, S, hS, hE, hp⟩ => Post.ok (rep := same) hp hS rfl
theorem io_some {m : Env → Sto → R T} (h : IE B k N sc e m) : IO B k N sc (some e) (fun ρ S => (m ρ S).bind fun x S => match x with | .int i => .ok (some i) S | _ => .bad) := fun X s => by
  refine PO.imp (po_some (h X s)) fun σ H Q ⟨φ, ρ, S, hS, hE, hp⟩ => ?_
  refine ⟨φ, ρ, S, hS, hE, hp.bind fun t S1 φ1 H1 v _ e1 hS1 rv hp1 => ?_⟩
  cases rv with
  | int i => exact ⟨i, rfl, Post.ok (rep := same) hp1 hS1 rfl⟩
  | _ => exact hp1.elim
theorem cut_reps {φ : List Addr} {H : Hp} {vs : List V} {ts : List T} (r : B.reps φ H vs ts) (lo hi : Option Int) : B.reps φ H (cutV vs lo hi) (cut ts lo hi) := by
  unfold cutV cut
  rw [r.length]
  exact (r.drop _).take _
theorem cut_whole {α : Type} {xs : List α} {lo hi : Option Int} (h : HT.sIx xs.length 0 lo = 0 ∧ HT.sIx xs.length xs.length hi = xs.length) : cut xs lo hi = xs := by
  unfold cut
  rw [h.1, h.2]
  simp
theorem ie_slc {a : Expr} {lo hi : Option Expr} {p2 : Pos} {ma : Env → Sto → R T} {ml mh : Env → Sto → R (Option Int)} (ha : IE B k N sc a ma) (hl : IO B k N sc lo ml) (hh : IO B k N sc hi mh) :
    IE B k N sc (.Subscript a (.Slice lo hi none p2) pos) (fun ρ S => (ma ρ S).bind fun x S => (ml ρ S).bind fun l S => (mh ρ S).bind fun h S => R.opt (slcT (vw S x) l h) S) := fun X s => by
  refine PE.imp (pe_slice (SlR.or sl_list (SlR.or sl_tupA sl_str)) (ha X s) (hl X s) (hh X s)) fun σ H Q ⟨φ, ρ, S, hS, hE, hp⟩ => ?_
  refine ⟨φ, ρ, S, hS, hE, hp.bind fun t S1 φ1 H1 v _ e1 hS1 rv hp1 => ?_⟩
  refine ⟨φ1, ρ, S1, hS1, hE.ext e1, hp1.bind fun l S2 φ2 H2 l' _ e2 hS2 rl hp2 => ?_⟩
  cases rl
  refine ⟨φ2, ρ, S2, hS2, hE.ext (e1.trans e2), hp2.bind fun h S3 φ3 H3 h' _ e3 hS3 rh hp3 => ?_⟩
  cases rh
  obtain ⟨t3, ht, hq⟩ := hp3.opt
  have rv' := (rv.ext e2).ext e3
  rw [s.hK]
  cases ea : vw S3 t with
  | tup xs =>
    rw [ea] at ht
    cases ht
    obtain ⟨p, vs, rfl, h1, q1⟩ := seen_tup rv' ea
    refine .inr (.inl ⟨p, vs, rfl, h1, fun w => ?_, fun _ => post_tup hq hS3 (cut_reps q1 _ _)⟩)
    rw [q1.length] at w
    rw [cut_whole w] at hq
    have e2 : vw S3 t = t := by
      rcases vw_cases S3 t with q | ⟨l, rfl, zs, _, q⟩
      · exact q
      · rw [q] at ea; cases ea
    rw [e2] at ea
    subst ea
    exact hq.ok hS3 rv'
  | vl xs =>
    rw [ea] at ht
    cases ht
    obtain ⟨p, vs, rfl, h1, q1⟩ := seen_list hS3 rv' ea
    exact .inl ⟨p, vs, rfl, .of h1, post_lst hq hS3 (cut_reps q1 _ _)⟩
  | str x =>
    rw [ea] at ht
    obtain ⟨hz, rfl⟩ := gd_some ht
    exact .inr (.inr ⟨x, seen_str rv' ea, of_decide_eq_true hz, hq.ok hS3 (.str _)⟩)
  | _ => rw [ea] at ht; cases ht

/-! ### calls of what is built in -/
def CallI (B : Base) (k : Nat) (N : List Str) (sc : Scp) (g : Value) (f : List T → Option T) : Prop := ∀ X, Sit B k N sc X → ∃ r : List V → Hp → VK → Prop, CallR X g r ∧
  ∀ φ S H xs ts Q, RelS B.K B.mg B.hid φ S H → B.reps φ H xs ts → Post B B.rep φ H (R.opt (f (ts.map (vw S))) S) Q → r xs H Q
theorem ie_bif {x : Str} {id : String} {p : Pos} {m : Env → Sto → R (List T)} {f : List T → Option T} (hc : CallI B k N sc (.builtin id) f) (hg : sc.names.lookup x = some .globalImplicit) (hm : B.mg x = none) (hv : bootBuiltins x = some (.builtin id))
    (hn : x ≠ "__name__") (hd : (x == ("__debug__" : Str)) = false) (hs : (e :: es).any isStar = false) (ha : IA B k N sc (e :: es) m) : IE B k N sc (.Call (.Name x p) (e :: es) [] pos) (fun ρ S => (m ρ S).bind fun xs S => R.opt (f (xs.map (vw S))) S) := fun X s => by
  rw [List.any_cons, Bool.or_eq_false_iff] at hs
  obtain ⟨r, h1, h2⟩ := hc X s
  refine PE.imp (pe_callB h1 (gl_of s hg) (by rw [s.hmg]; exact hm) hv (ha X s) hn hd (star_head hs.1) (star_none hs.2)) fun σ H Q ⟨φ, ρ, S, hS, hE, hp⟩ => ?_
  exact ⟨φ, ρ, S, hS, hE, hp.bind fun ts S1 φ1 H1 vs _ e1 hS1 rv hp1 => h2 φ1 S1 H1 vs ts Q hS1 rv hp1⟩
theorem ie_bty {x : Str} {T' : String} {p : Pos} {m : Env → Sto → R (List T)} {f : List T → Option T} (hc : CallI B k N sc (.type T') f) (hg : sc.names.lookup x = some .globalImplicit) (hm : B.mg x = none) (hv : bootBuiltins x = some (.type T'))
    (hn : x ≠ "__name__") (hd : (x == ("__debug__" : Str)) = false) (hs : (e :: es).any isStar = false) (ha : IA B k N sc (e :: es) m) : IE B k N sc (.Call (.Name x p) (e :: es) [] pos) (fun ρ S => (m ρ S).bind fun xs S => R.opt (f (xs.map (vw S))) S) := fun X s => by
  rw [List.any_cons, Bool.or_eq_false_iff] at hs
  obtain ⟨r, h1, h2⟩ := hc X s
  refine PE.imp (pe_callTy h1 (gl_of s hg) (by rw [s.hmg]; exact hm) hv (ha X s) hn hd (star_head hs.1) (star_none hs.2)) fun σ H Q ⟨φ, ρ, S, hS, hE, hp⟩ => ?_
  exact ⟨φ, ρ, S, hS, hE, hp.bind fun ts S1 φ1 H1 vs _ e1 hS1 rv hp1 => h2 φ1 S1 H1 vs ts Q hS1 rv hp1⟩

theorem reps1 {φ : List Addr} {H : Hp} {xs : List V} {t : T} (r : B.reps φ H xs [t]) : ∃ v, xs = [v] ∧ B.rep φ H v t := by
  cases r with
  | cons h r => cases r; exact ⟨_, rfl, h⟩
theorem reps2 {φ : List Addr} {H : Hp} {xs : List V} {t u : T} (r : B.reps φ H xs [t, u]) : ∃ v w, xs = [v, w] ∧ B.rep φ H v t ∧ B.rep φ H w u := by
  cases r with
  | cons h r =>
    obtain ⟨w, rfl, h2⟩ := reps1 r
    exact ⟨_, w, rfl, h, h2⟩
theorem map1 {S : Sto} {ts : List T} {y : T} (h : ts.map (vw S) = [y]) : ∃ t, ts = [t] ∧ vw S t = y := by
  match ts, h with
  | [t], h => exact ⟨t, rfl, by simpa using h⟩
theorem map2 {S : Sto} {ts : List T} {y z : T} (h : ts.map (vw S) = [y, z]) : ∃ t u, ts = [t, u] ∧ vw S t = y ∧ vw S u = z := by
  match ts, h with
  | [t, u], h => exact ⟨t, u, rfl, by simpa using h⟩
theorem call_lenI : CallI B k N sc (.builtin "len") (bifT "len") := fun X s => by
  refine ⟨_, fun pins s' σ H xs us Q I rv h => (h : _ ∨ _).elim (call_len pins s' σ H xs us Q I rv) (call_lenD pins s' σ H xs us Q I rv), fun φ S H xs ts Q hS ra hp => ?_⟩
  obtain ⟨t, ht, hq⟩ := hp.opt
  rw [s.hK]
  cases em : ts.map (vw S) with
  | nil => rw [em] at ht; cases ht
  | cons y r =>
    cases r with
    | cons z r => rw [em] at ht; cases y <;> cases ht
    | nil =>
      rw [em] at ht
      obtain ⟨a, rfl, ea⟩ := map1 em
      obtain ⟨v, rfl, rv⟩ := reps1 ra
      cases y with
      | str x =>
        obtain ⟨hz, rfl⟩ := gd_some (show gd (decide (x.length ≤ lim)) (T.int x.length) = some t from ht)
        exact .inl ⟨_, x.length, rfl, by rw [seen_str rv ea]; exact ⟨of_decide_eq_true hz, rfl⟩, hq.ok hS (.int _)⟩
      | tup ys =>
        cases ht
        obtain ⟨p, vs, rfl, h1, q1⟩ := seen_tup rv ea
        exact .inl ⟨_, ys.length, rfl, .inr ⟨vs, h1, q1.length.symm⟩, hq.ok hS (.int _)⟩
      | vl ys =>
        cases ht
        obtain ⟨p, vs, rfl, h1, q1⟩ := seen_list hS rv ea
        exact .inl ⟨_, ys.length, rfl, .inl ⟨vs, .of h1, q1.length.symm⟩, hq.ok hS (.int _)⟩
      | scr ys =>
        cases ht
        obtain ⟨p, vs, rfl, h1, q1⟩ := seen_scr rv ea
        exact .inl ⟨_, ys.length, rfl, .inl ⟨vs, h1, q1.length.symm⟩, hq.ok hS (.int _)⟩
      | _ => cases ht
theorem bls_reps {φ : List Addr} {H : Hp} : ∀ {vs : List V} {ts : List T} {bs : List Bool}, B.reps φ H vs ts → blsOf ts = some bs → vs = bs.map V.bl
  | _, _, _, .nil, h => by cases h; rfl
  | _, _, bs, .cons (t := t) h r, e => by
    cases h with
    | bl b =>
      obtain ⟨bs', h1, rfl⟩ := Option.map_eq_some_iff.mp (show (blsOf _).map (b :: ·) = some bs from e)
      rw [bls_reps r h1]; rfl
    | _ => cases e
theorem call_allI : CallI B k N sc (.builtin "all") (bifT "all") := fun X s => by
  refine ⟨_, cr_all s.calm, fun φ S H xs ts Q hS ra hp => ?_⟩
  obtain ⟨t, ht, hq⟩ := hp.opt
  rw [s.hK]
  cases em : ts.map (vw S) with
  | nil => rw [em] at ht; cases ht
  | cons y r =>
    cases r with
    | cons z r => rw [em] at ht; cases y <;> cases ht
    | nil =>
      rw [em] at ht
      obtain ⟨a, rfl, ea⟩ := map1 em
      obtain ⟨v, rfl, rv⟩ := reps1 ra
      cases y with
      | vl ys =>
        obtain ⟨bs, h1, rfl⟩ := Option.map_eq_some_iff.mp (show (blsOf ys).map (fun bs => T.bl (bs.all id)) = some t from ht)
        obtain ⟨p, vs, rfl, h2, q1⟩ := seen_list hS rv ea
        exact ⟨p, bs, rfl, by rw [← bls_reps q1 h1]; exact .of h2, hq.ok hS (.bl _)⟩
      | _ => cases ht
theorem call_anyI : CallI B k N sc (.builtin "any") (bifT "any") := fun X s => by
  refine ⟨_, cr_any s.calm, fun φ S H xs ts Q hS ra hp => ?_⟩
  obtain ⟨t, ht, hq⟩ := hp.opt
  rw [s.hK]
  cases em : ts.map (vw S) with
  | nil => rw [em] at ht; cases ht
  | cons y r =>
    cases r with
    | cons z r => rw [em] at ht; cases y <;> cases ht
    | nil =>
      rw [em] at ht
      obtain ⟨a, rfl, ea⟩ := map1 em
      obtain ⟨v, rfl, rv⟩ := reps1 ra
      cases y with
      | vl ys =>
        obtain ⟨bs, h1, rfl⟩ := Option.map_eq_some_iff.mp (show (blsOf ys).map (fun bs => T.bl (bs.any id)) = some t from ht)
        obtain ⟨p, vs, rfl, h2, q1⟩ := seen_list hS rv ea
        exact ⟨p, bs, rfl, by rw [← bls_reps q1 h1]; exact .of h2, hq.ok hS (.bl _)⟩
      | _ => cases ht
/-- one int in -/
theorem call_i1 {id : Value} {f : List T → Option T} {g : Int → Int} (ho : ∀ X : Cx, CallR X id (fun xs H Q => ∃ i, xs = [.int i] ∧ Q (.int (g i)) H)) (hf : ∀ ts t, f ts = some t → ∃ i, ts = [.int i] ∧ t = .int (g i)) : CallI B k N sc id f := fun X s => by
  refine ⟨_, ho X, fun φ S H xs ts Q hS ra hp => ?_⟩
  obtain ⟨t, ht, hq⟩ := hp.opt
  obtain ⟨i, em, rfl⟩ := hf _ _ ht
  obtain ⟨a, rfl, ea⟩ := map1 em
  obtain ⟨v, rfl, rv⟩ := reps1 ra
  exact ⟨i, by rw [seen_int rv ea], hq.ok hS (.int _)⟩
theorem call_absI : CallI B k N sc (.builtin "abs") (bifT "abs") := call_i1 (g := fun i => if i < 0 then -i else i) (fun X => call_abs) fun ts t h => by
  match ts, h with
  | [.int i], h => cases h; exact ⟨i, rfl, rfl⟩
theorem call_i2 {id : Value} {f : List T → Option T} {g : Int → Int → Int} (ho : ∀ X : Cx, X.calm = true → CallR X id (fun xs H Q => ∃ i j, xs = [.int i, .int j] ∧ Q (.int (g i j)) H)) (hf : ∀ ts t, f ts = some t → ∃ i j, ts = [.int i, .int j] ∧ t = .int (g i j)) : CallI B k N sc id f := fun X s => by
  refine ⟨_, ho X s.calm, fun φ S H xs ts Q hS ra hp => ?_⟩
  obtain ⟨t, ht, hq⟩ := hp.opt
  obtain ⟨i, j, em, rfl⟩ := hf _ _ ht
  obtain ⟨a, b, rfl, ea, eb⟩ := map2 em
  obtain ⟨v, w, rfl, rv, rw2⟩ := reps2 ra
  exact ⟨i, j, by rw [seen_int rv ea, seen_int rw2 eb], hq.ok hS (.int _)⟩
theorem call_maxI : CallI B k N sc (.builtin "max") (bifT "max") := call_i2 (g := fun i j => if j > i then j else i) (fun X hc => call_max2 hc) fun ts t h => by
  match ts, h with
  | [.int i, .int j], h => cases h; exact ⟨i, j, rfl, rfl⟩
theorem call_minI : CallI B k N sc (.builtin "min") (bifT "min") := call_i2 (g := fun i j => if j < i then j else i) (fun X hc => call_min2 hc) fun ts t h => by
  match ts, h with
  | [.int i, .int j], h => cases h; exact ⟨i, j, rfl, rfl⟩
theorem call_intI : CallI B k N sc (.type "int") (btyT "int") := fun X s => by
  refine ⟨_, call_int1, fun φ S H xs ts Q hS ra hp => ?_⟩
  obtain ⟨t, ht, hq⟩ := hp.opt
  have key : (∃ i, ts.map (vw S) = [.int i] ∧ t = .int i) ∨ ∃ b, ts.map (vw S) = [.bl b] ∧ t = .int (if b then 1 else 0) := by
    match ts.map (vw S), ht with
    | [.int i], h => cases h; exact .inl ⟨i, rfl, rfl⟩
    | [.bl b], h => cases h; exact .inr ⟨b, rfl, rfl⟩
  rcases key with ⟨i, em, rfl⟩ | ⟨b, em, rfl⟩
  · obtain ⟨a, rfl, ea⟩ := map1 em
    obtain ⟨v, rfl, rv⟩ := reps1 ra
    exact .inl ⟨i, by rw [seen_int rv ea], hq.ok hS (.int _)⟩
  · obtain ⟨a, rfl, ea⟩ := map1 em
    obtain ⟨v, rfl, rv⟩ := reps1 ra
    exact .inr ⟨b, by rw [seen_bl rv ea], hq.ok hS (.int _)⟩
theorem vw_tup {S : Sto} {t : T} {ts : List T} (e : vw S t = .tup ts) : t = .tup ts := by
  rcases vw_cases S t with q | ⟨l, rfl, xs, hl, q⟩
  · rw [q] at e; exact e
  · rw [q] at e; cases e
theorem call_tupI : CallI B k N sc (.type "tuple") (btyT "tuple") := fun X s => by
  refine ⟨_, call_tuple_of, fun φ S H xs ts Q hS ra hp => ?_⟩
  obtain ⟨t, ht, hq⟩ := hp.opt
  rw [s.hK]
  have key : (∃ ys, ts.map (vw S) = [.tup ys] ∧ t = .tup ys) ∨ ∃ ys, ts.map (vw S) = [.vl ys] ∧ t = .tup ys := by
    match ts.map (vw S), ht with
    | [.tup ys], h => cases h; exact .inl ⟨ys, rfl, rfl⟩
    | [.vl ys], h => cases h; exact .inr ⟨ys, rfl, rfl⟩
  rcases key with ⟨ys, em, rfl⟩ | ⟨ys, em, rfl⟩
  · obtain ⟨a, rfl, ea⟩ := map1 em
    obtain ⟨v, rfl, rv⟩ := reps1 ra
    obtain ⟨p, vs, rfl, h1, q1⟩ := seen_tup rv ea
    rw [vw_tup ea] at rv
    exact ⟨p, vs, rfl, .inr ⟨h1, hq.ok hS rv⟩⟩
  · obtain ⟨a, rfl, ea⟩ := map1 em
    obtain ⟨v, rfl, rv⟩ := reps1 ra
    obtain ⟨p, vs, rfl, h1, q1⟩ := seen_list hS rv ea
    exact ⟨p, vs, rfl, .inl ⟨.of h1, post_tup hq hS q1⟩⟩
theorem call_lstI : CallI B k N sc (.type "list") (btyT "list") := fun X s => by
  refine ⟨_, call_list_of, fun φ S H xs ts Q hS ra hp => ?_⟩
  obtain ⟨t, ht, hq⟩ := hp.opt
  rw [s.hK]
  have key : ∃ ys, (ts.map (vw S) = [.tup ys] ∨ ts.map (vw S) = [.vl ys]) ∧ t = .vl ys := by
    match ts.map (vw S), ht with
    | [.tup ys], h => cases h; exact ⟨ys, .inl rfl, rfl⟩
    | [.vl ys], h => cases h; exact ⟨ys, .inr rfl, rfl⟩
  obtain ⟨ys, em | em, rfl⟩ := key
  · obtain ⟨a, rfl, ea⟩ := map1 em
    obtain ⟨v, rfl, rv⟩ := reps1 ra
    obtain ⟨p, vs, rfl, h1, q1⟩ := seen_tup rv ea
    exact ⟨p, vs, rfl, .inr h1, post_lst hq hS q1⟩
  · obtain ⟨a, rfl, ea⟩ := map1 em
    obtain ⟨v, rfl, rv⟩ := reps1 ra
    obtain ⟨p, vs, rfl, h1, q1⟩ := seen_list hS rv ea
    exact ⟨p, vs, rfl, .inl (.of h1), post_lst hq hS q1⟩
/-- list(x), fresh -/
def lsT : List T → Option (List T)
  | [.tup xs] => some xs
  | [.vl xs] => some xs
  | _ => none
theorem bty_ls (ts : List T) : btyT "list" ts = (lsT ts).map .vl := by
  show (match ts with
    | [.tup xs] => some (T.vl xs)
    | [.vl xs] => some (T.vl xs)
    | _ => none) = _
  unfold lsT
  split <;> rfl
theorem if_list {p : Pos} {m : Env → Sto → R (List T)} (hg : sc.names.lookup ("list" : Str) = some .globalImplicit) (hm : B.mg "list" = none) (hv : bootBuiltins "list" = some (.type "list"))
    (hd : ((("list" : Str)) == ("__debug__" : Str)) = false) (hs : (e :: es).any isStar = false) (ha : IA B k N sc (e :: es) m) : IF B k N sc (.Call (.Name "list" p) (e :: es) [] pos) (fun ρ S => (m ρ S).bind fun xs S => R.opt (lsT (xs.map (vw S))) S) := fun X s => by
  rw [List.any_cons, Bool.or_eq_false_iff] at hs
  refine PE.imp (pe_callTy call_list_of (gl_of s hg) (by rw [s.hmg]; exact hm) hv (ha X s) (by decide) hd (star_head hs.1) (star_none hs.2)) fun σ H Q ⟨φ, ρ, S, hS, hE, hp⟩ => ?_
  refine ⟨φ, ρ, S, hS, hE, hp.bind fun ts S1 φ1 H1 vs _ e1 hS1 rv hp1 => ?_⟩
  obtain ⟨ys, hy, hq⟩ := hp1.opt
  rw [s.hK]
  have key : ts.map (vw S1) = [.tup ys] ∨ ts.map (vw S1) = [.vl ys] := by
    revert hy
    unfold lsT
    split
    · rename_i zs h; intro q; cases q; exact .inl h
    · rename_i zs h; intro q; cases q; exact .inr h
    · intro q; cases q
  rcases key with em | em
  · obtain ⟨a, rfl, ea⟩ := map1 em
    obtain ⟨v, rfl, rv1⟩ := reps1 rv
    obtain ⟨p, vs, rfl, h1, q1⟩ := seen_tup rv1 ea
    exact ⟨p, vs, rfl, .inr h1, hq.ok hS1 q1⟩
  · obtain ⟨a, rfl, ea⟩ := map1 em
    obtain ⟨v, rfl, rv1⟩ := reps1 rv
    obtain ⟨p, vs, rfl, h1, q1⟩ := seen_list hS1 rv1 ea
    exact ⟨p, vs, rfl, .inl (.of h1), hq.ok hS1 q1⟩
theorem call_str_any {X : Cx} : CallR X (.type "str") (fun xs H Q => (∃ i, xs = [.int i] ∧ i.natAbs.log2 < 1920 ∧ Q (.str (toString i)) H) ∨ (∃ c : Bool, xs = [.bl c] ∧ Q (.str (if c = true then Str.ofString "True" else Str.ofString "False")) H) ∨ ∃ a, xs = [.str a] ∧ Q (.str a) H) := by
  intro pins s σ H xs us Q I r h
  rcases h with h | ⟨c, rfl, q⟩ | ⟨a, rfl, q⟩
  · exact call_str_int pins s σ H xs us Q I r h
  · obtain ⟨u, rfl, r1⟩ := vals1 r
    cases r1
    exact PySem.P.str_of_bool ⟨.str (if c = true then Str.ofString "True" else Str.ofString "False"), H, I.tok _, ⟨_, rfl⟩, q⟩
  · obtain ⟨u, rfl, t, rfl⟩ := vals1 r
    exact PySem.P.str_of_str ⟨.str _, H, I, ⟨_, rfl⟩, q⟩
theorem call_strI : CallI B k N sc (.type "str") (btyT "str") := fun X s => by
  refine ⟨_, call_str_any, fun φ S H xs ts Q hS ra hp => ?_⟩
  obtain ⟨t, ht, hq⟩ := hp.opt
  have key : (∃ i, ts.map (vw S) = [.int i] ∧ bits i < 1900 ∧ t = .str (Str.ofString (toString i))) ∨ (∃ c : Bool, ts.map (vw S) = [.bl c] ∧ t = .str (if c = true then Str.ofString "True" else Str.ofString "False")) ∨ ∃ x, ts.map (vw S) = [.str x] ∧ t = .str x := by
    match ts.map (vw S), ht with
    | [.int i], h =>
      obtain ⟨h1, h2⟩ := gd_some h
      exact .inl ⟨i, rfl, of_decide_eq_true h1, h2.symm⟩
    | [.bl c], h => cases h; exact .inr (.inl ⟨c, rfl, rfl⟩)
    | [.str x], h => cases h; exact .inr (.inr ⟨x, rfl, rfl⟩)
  rcases key with ⟨i, em, hz, rfl⟩ | ⟨c, em, rfl⟩ | ⟨x, em, rfl⟩
  · obtain ⟨a, rfl, ea⟩ := map1 em
    obtain ⟨v, rfl, rv⟩ := reps1 ra
    exact .inl ⟨i, by rw [seen_int rv ea], by unfold bits at hz; omega, hq.ok hS (.str _)⟩
  · obtain ⟨a, rfl, ea⟩ := map1 em
    obtain ⟨v, rfl, rv⟩ := reps1 ra
    exact .inr (.inl ⟨c, by rw [seen_bl rv ea], hq.ok hS (.str _)⟩)
  · obtain ⟨a, rfl, ea⟩ := map1 em
    obtain ⟨v, rfl, rv⟩ := reps1 ra
    exact .inr (.inr ⟨x, by rw [seen_str rv ea], hq.ok hS (.str _)⟩)
end
end Px
end
section
set_option linter.all false
set_option maxRecDepth 100000
/-! Px7: isinstance, repr, methods, dicts. -/
namespace Px
open PySem PySem.Spec PyProof.Rows L2
section
variable {B : Base} {k : Nat} {N : List Str} {sc : Scp} {e : Expr} {es : List Expr} {pos : Pos}

/-! ### isinstance -/
theorem tyX_tup {φ : List Addr} {H : Hp} {a : Addr} {vs : List V} (h : TupAt B.K B.hid φ H a vs) : TyX B.K H (.ref a) (.type "tuple") := by
  rcases h with ⟨h | ⟨o, h⟩, _, _⟩ | h | ⟨o, its, n, h1, h2, _⟩
  · exact .base (.tup h)
  · exact .fTuple h
  · exact absurd h rd_none
  · exact .kTuple h1 h2
theorem tyX_of {φ : List Addr} {S : Sto} {H : Hp} {v : V} {t : T} {m : String} (hS : RelS B.K B.mg B.hid φ S H) (h : B.rep φ H v t) (e : tyOf (vw S t) = some m) : TyX B.K H v (.type m) := by
  rcases vw_cases S t with q | ⟨l, rfl, xs, hl, q⟩
  · rw [q] at e
    cases h with
    | non => cases e; exact .base .non
    | bl b => cases e; exact .base (.bl b)
    | int i => cases e; exact .base (.int i)
    | str x => cases e; exact .base (.str x)
    | tup h r => cases e; exact tyX_tup h
    | vl h n r => cases e; exact .base (.lst h)
    | vd0 h n => cases e; exact .base (.dT h)
    | vd h z n r p => cases e; exact .base (.dK h)
    | _ => cases e
  · rw [q] at e
    cases e
    obtain ⟨a, vs, rfl, h1, _⟩ := seen_list hS h q
    exact .base (.lst h1)
theorem kit_all {t : T} {m n : String} (h : tyOf t = some m) (hn : ["int", "bool", "str", "tuple", "list", "dict"].contains n = true) : PySem.W.kitOne B.K (.type m) (.type n) = some (m == n || (m == "bool" && n == "int")) := by
  simp only [List.contains_cons, List.contains_nil, Bool.or_false, Bool.or_eq_true, beq_iff_eq] at hn
  cases t <;> cases h <;> (rcases hn with rfl | rfl | rfl | rfl | rfl | rfl <;> exact kit_ty (by decide +kernel))
theorem call_isiI : CallI B k N sc (.builtin "isinstance") (bifT "isinstance") := fun X s => by
  refine ⟨_, call_isi, fun φ S H xs ts Q hS ra hp => ?_⟩
  obtain ⟨t, ht, hq⟩ := hp.opt
  rw [s.hK]
  have key : ∃ y n b, ts.map (vw S) = [y, .ty n] ∧ isi y n = some b ∧ t = .bl b := by
    match ts.map (vw S), ht with
    | [y, .ty n], h =>
      obtain ⟨b, h1, rfl⟩ := Option.map_eq_some_iff.mp (show (isi y n).map .bl = some t from h)
      exact ⟨y, n, b, rfl, h1, rfl⟩
  obtain ⟨y, n, b, em, hb, rfl⟩ := key
  obtain ⟨a, c, rfl, ea, ec⟩ := map2 em
  obtain ⟨v, w, rfl, rv, rw2⟩ := reps2 ra
  obtain ⟨m, hm, h2⟩ := Option.bind_eq_some_iff.mp (show (tyOf y).bind _ = some b from hb)
  obtain ⟨hn, rfl⟩ := gd_some h2
  rw [← ea] at hm
  exact ⟨v, w, _, _, _, rfl, by rw [seen_ty rw2 ec]; exact .ty n, tyX_of hS rv hm, kit_all hm hn, hq.ok hS (.bl _)⟩

/-! ### repr -/
def keyD : Key → PyData
  | .inl i => .int i
  | .inr x => .str x
theorem pairs_reads {h : Heap} {P : Program} {w : World} : ∀ {es : List DictEntry} {kvs : List (Key × Value)}, Pairs (mixKind P w) es kvs → ∀ {ds : List PyData} {as : List Addr}, ReadsAll h (kvs.map (·.2)) ds as →
    ReadsAll h (es.map (·.val)) ds as ∧ ∃ ks, ks = kvs.map (fun p => keyD p.1) ∧ ReadsAll h (es.map (·.key)) ks []
  | _, _, .nil, ds, as, r => ⟨r, [], rfl, .nil⟩
  | _, _, .cons (e := en) (kv := (kk, kv)) hk hv hr, _, _, .cons r rs => by
    obtain ⟨h1, ks, rfl, h2⟩ := pairs_reads hr rs
    refine ⟨?_, _, rfl, ?_⟩
    · rw [List.map_cons, hv]
      exact .cons r h1
    · rw [List.map_cons, List.map_cons]
      have z : Reads h en.key (keyD kk) [] := by
        rcases keyIs_shape (show keyIs kk en.key = true from hk) with ⟨i, t, rfl, q⟩ | ⟨x, t, rfl, q⟩
        · rw [q]; exact .int i t
        · rw [q]; exact .str x t
      exact .cons z h2
theorem kv_vals {kvs : List (Key × V)} {vs : List (Key × Value)} (r : KV kvs vs) : Vals (kvs.map (·.2)) (vs.map (·.2)) ∧ kvs.map (·.1) = vs.map (·.1) := by
  unfold KV at r
  induction r with
  | nil => exact ⟨.nil, rfl⟩
  | cons h t ih =>
    refine ⟨?_, ?_⟩
    · rw [List.map_cons, List.map_cons]; exact .cons h.2 ih.1
    · rw [List.map_cons, List.map_cons, h.1, ih.2]
theorem key_dat {φ : List Addr} {H : Hp} : ∀ {kvs : List (Key × V)} {ks : List T}, B.reps φ H (kvs.map fun p => kV p.1) ks → T.datL ks = kvs.map fun p => keyD p.1
  | [], _, h => by cases h; rfl
  | p :: kvs, _, h => by
    rw [List.map_cons] at h
    cases h with
    | @cons _ _ t ts h r =>
      show t.dat :: T.datL ts = _
      rw [key_dat r, List.map_cons]
      congr 1
      cases p with
      | mk a b => cases a <;> (cases h; rfl)
theorem zip_of {α β : Type} {xs : List α} {ys : List β} (h : xs.length = ys.length) : (xs.zip ys).map (·.1) = xs ∧ (xs.zip ys).map (·.2) = ys :=
  ⟨by rw [List.map_fst_zip]; omega, by rw [List.map_snd_zip]; omega⟩
theorem datL_length : ∀ ts : List T, (T.datL ts).length = ts.length
  | [] => rfl
  | _ :: ts => by show (T.datL ts).length + 1 = _; rw [datL_length ts]; rfl
mutual
theorem reads_of {X : Cx} {pins : List (Addr × Obj)} {σ : L2.St} {H : Hp} {s : Shared} {φ : List Addr} (hK : X.K = B.K) (I : Inv X pins σ H s) (hsys : ∃ o, H sysModules = some (.frz o (.ext fun _ => True))) : ∀ {v : V} {t : T} {u : Value}, Rep B.K B.mg B.hid φ H v t → t.pure = true → RelV v u → ∃ as, Reads s.heap u t.dat as ∧ sysModules ∉ as
  | _, _, _, .non, _, r => by cases r; exact ⟨_, .none, by simp⟩
  | _, _, _, .bl b, _, r => by cases r; exact ⟨_, .bool b, by simp⟩
  | _, _, _, .int i, _, r => by obtain ⟨t, rfl⟩ := r; exact ⟨_, .int i t, by simp⟩
  | _, _, _, .str x, _, r => by obtain ⟨t, rfl⟩ := r; exact ⟨_, .str x t, by simp⟩
  | _, _, _, .tup h q, f, r => by
    cases r
    obtain ⟨its, rv, ⟨o, ho, hc, n, hd⟩, _⟩ := I.tuple (by rw [hK]; exact h.sq)
    obtain ⟨as, hr, hn⟩ := readsAll_of hK I hsys q f rv
    exact ⟨_, .tuple ho hc hd hr, hn⟩
  | _, _, _, .vl (a := a) h n q, f, r => by
    cases r
    obtain ⟨its, rv, ⟨o, n', ho, hc, _, hd⟩, _⟩ := I.list (.of h)
    obtain ⟨as, hr, hn⟩ := readsAll_of hK I hsys q f rv
    refine ⟨_, .list ho hc hd hr, ?_⟩
    intro z
    rcases List.mem_cons.mp z with z | z
    · obtain ⟨_, hs⟩ := hsys; rw [z, h] at hs; cases hs
    · exact hn z
  | _, _, _, .vd0 (a := a) h n, f, r => by
    cases r
    obtain ⟨z, hne, xs, rk, o, es, ep, ho, hex, hd, he, _⟩ := I.hok a _ h
    have ex : xs = [] := by cases rk; rfl
    subst ex
    have e0 : es.toList = [] := he
    refine ⟨_, Reads.dict (kvs := []) (as := []) (bs := []) ho hex.1 hd (by rw [e0]; exact .nil) (by rw [e0]; exact .nil), fun z => ?_⟩
    rcases List.mem_cons.mp z with z | z
    · obtain ⟨_, hs⟩ := hsys; rw [z, h] at hs; cases hs
    · simp at z
  | _, _, _, .vd (a := a) (kvs := kvs) (ks := ks) (vs := us) h _ n q q2, f, r => by
    cases r
    have f' := Bool.and_eq_true_iff.mp f
    obtain ⟨z, hne, vs, rk, o, es, ep, ho, hex, hd, _, hp, _⟩ := I.hok a _ h
    obtain ⟨rv, ek⟩ := kv_vals rk
    obtain ⟨bs, hr, hn⟩ := readsAll_of hK I hsys q2 f'.2 rv
    obtain ⟨h1, ks', rfl, h2⟩ := pairs_reads hp hr
    have el : (T.datL ks).length = (T.datL us).length := by
      rw [datL_length, datL_length, ← q.length, ← q2.length, List.length_map, List.length_map]
    have e1 := zip_of el
    refine ⟨_, Reads.dict (kvs := (T.datL ks).zip (T.datL us)) (as := []) (bs := bs) ho hex.1 hd ?_ ?_, ?_⟩
    · rw [e1.1, key_dat q]
      have : kvs.map (fun p => keyD p.1) = vs.map (fun p => keyD p.1) := by
        have e2 : (kvs.map (·.1)).map keyD = (vs.map (·.1)).map keyD := by rw [ek]
        rw [List.map_map, List.map_map] at e2
        exact e2
      rw [this]
      exact h2
    · rw [e1.2]; exact h1
    · intro z
      rcases List.mem_cons.mp z with z | z
      · obtain ⟨_, hs⟩ := hsys; rw [z, h] at hs; cases hs
      · exact hn (by simpa using z)
  | _, _, _, .scr h q, f, r => nomatch f
  | _, _, _, .loc h, f, r => nomatch f
  | _, _, _, .ty n, f, r => nomatch f
  | _, _, _, .gl h, f, r => nomatch f
theorem readsAll_of {X : Cx} {pins : List (Addr × Obj)} {σ : L2.St} {H : Hp} {s : Shared} {φ : List Addr} (hK : X.K = B.K) (I : Inv X pins σ H s) (hsys : ∃ o, H sysModules = some (.frz o (.ext fun _ => True))) : ∀ {vs : List V} {ts : List T} {us : List Value}, Reps B.K B.mg B.hid φ H vs ts → T.pureL ts = true → Vals vs us → ∃ as, ReadsAll s.heap us (T.datL ts) as ∧ sysModules ∉ as
  | _, _, _, .nil, _, r => by cases r; exact ⟨_, .nil, by simp⟩
  | _, _, _, .cons h q, f, r => by
    cases r with
    | cons r1 r2 =>
      have f' := Bool.and_eq_true_iff.mp f
      obtain ⟨as, h1, n1⟩ := reads_of hK I hsys h f'.1 r1
      obtain ⟨bs, h2, n2⟩ := readsAll_of hK I hsys q f'.2 r2
      exact ⟨_, .cons h1 h2, fun z => (List.mem_append.mp z).elim n1 n2⟩
end
/-- repr of data -/
def rRepr (B : Base) : List V → Hp → VK → Prop := fun xs H Q => ∃ v t φ S, xs = [v] ∧ B.rep φ H v t ∧ RelS B.K B.mg B.hid φ S H ∧ (vw S t).pure = true ∧ (vw S t).dat.showable = true ∧ (vw S t).dat.shown.length ≤ sizeLine ∧ (vw S t).dat.depth ≤ 150 ∧ Q (.str (vw S t).dat.shown) H
theorem reads_seen {X : Cx} {pins : List (Addr × Obj)} {σ : L2.St} {H : Hp} {s : Shared} {φ : List Addr} {S : Sto} (hK : X.K = B.K) (I : Inv X pins σ H s) {v : V} {t : T} {u : Value} (hS : RelS B.K B.mg B.hid φ S H) (h : B.rep φ H v t) (f : (vw S t).pure = true) (r : RelV v u) : ∃ as, Reads s.heap u (vw S t).dat as ∧ sysModules ∉ as := by
  rcases vw_cases S t with q | ⟨l, rfl, xs, hl, q⟩
  · rw [q] at f ⊢
    exact reads_of hK I hS.sys h f r
  · rw [q] at f ⊢
    obtain ⟨a, vs, rfl, h1, q1⟩ := seen_list hS h q
    cases r
    obtain ⟨its, rv, ⟨o, n', ho, hc, _, hd⟩, _⟩ := I.list (.of h1)
    obtain ⟨as, hr, hn⟩ := readsAll_of hK I hS.sys q1 f rv
    refine ⟨_, .list ho hc hd hr, fun z => ?_⟩
    rcases List.mem_cons.mp z with z | z
    · obtain ⟨_, e⟩ := hS.sys
      rw [z, h1] at e; cases e
    · exact hn z
theorem call_repr {X : Cx} (s : Sit B k N sc X) : CallR X (.builtin "repr") (rRepr B) := by
  intro pins s' σ H xs us Q I r h
  obtain ⟨v, t, φ, S, rfl, hv, hS, hp, hs, hz, hd, q⟩ := h
  cases r with
  | cons r1 r2 =>
    cases r2
    rename_i u
    obtain ⟨as, hr, hn⟩ := reads_seen s.hK I hS hv hp r1
    have hu := s.room.un
    have fin : ∀ tk, EP X pins σ Q (.str (vw S t).dat.shown tk) { s' with toks := s'.toks + 1 } := fun tk => ⟨.str _, H, I.tok _, ⟨_, rfl⟩, q⟩
    generalize hdat : (vw S t).dat = d at hr hs hz hd q fin
    cases hr with
    | none => exact PySem.P.repr_of_none (fin _)
    | bool b => exact PySem.P.repr_of_bool (by have f := fin s'.toks; simp only [PyData.shown] at f; exact f)
    | int i tk => exact PySem.P.repr_of_int (by simpa [PyData.showable] using hs) (by have f := fin s'.toks; simp only [PyData.shown] at f; exact f)
    | str x tk => exact PySem.P.repr_of_str (by have f := fin s'.toks; simp only [PyData.shown] at f; exact f) (by simpa only [PyData.shown] using hz)
    | list h1 h2 h3 h4 => exact repr_of_reads' (Reads.list h1 h2 h3 h4) hs (fun _ => hn) s.gs (by omega) (fun _ _ e => e) (fun h' u tk hk => ⟨.str _, H, I.kept (t' := tk) hk, ⟨_, rfl⟩, q⟩) hz
    | tuple h1 h2 h3 h4 => exact repr_of_reads' (Reads.tuple h1 h2 h3 h4) hs (fun _ => hn) s.gs (by omega) (fun _ _ e => e) (fun h' u tk hk => ⟨.str _, H, I.kept (t' := tk) hk, ⟨_, rfl⟩, q⟩) hz
    | dict h1 h2 h3 h4 h5 => exact repr_of_reads' (Reads.dict h1 h2 h3 h4 h5) hs (fun _ => hn) s.gs (by omega) (fun _ _ e => e) (fun h' u tk hk => ⟨.str _, H, I.kept (t' := tk) hk, ⟨_, rfl⟩, q⟩) hz
theorem call_reprI : CallI B k N sc (.builtin "repr") (bifT "repr") := fun X s => by
  refine ⟨_, call_repr s, fun φ S H xs ts Q hS ra hp => ?_⟩
  obtain ⟨t, ht, hq⟩ := hp.opt
  have key : ∃ y, ts.map (vw S) = [y] ∧ gd (y.pure && decide (y.dat.shown.length ≤ lim) && y.dat.showable && decide (y.dat.depth ≤ 150)) (T.str y.dat.shown) = some t := by
    match ts.map (vw S), ht with
    | [y], h => exact ⟨y, rfl, h⟩
  obtain ⟨y, em, hg⟩ := key
  obtain ⟨h1, rfl⟩ := gd_some hg
  simp only [Bool.and_eq_true, decide_eq_true_eq] at h1
  obtain ⟨a, rfl, rfl⟩ := map1 em
  obtain ⟨v, rfl, rv⟩ := reps1 ra
  exact ⟨v, a, φ, S, rfl, rv, hS, h1.1.1.1, h1.1.2, h1.1.1.2, h1.2, hq.ok hS (.str _)⟩
end
end Px
end
section
set_option linter.all false
set_option maxRecDepth 100000
/-! Px8: methods, the reverse of a tuple, dict displays. -/
namespace PxR
open PySem PySem.Spec PyProof.Rows HT
section
variable {prog : Program} {w : World} {A : Around} {E : Value → Shared → Prop} {s : Shared}
theorem places_rev (n : Nat) : Builtin.Slice.slicePlaces ((n : Int) - 1) (-1) (-1) = n := by
  unfold Builtin.Slice.slicePlaces
  by_cases h : n = 0
  · subst h; rfl
  · simp
    try omega
theorem applied_rev {sl : Addr} {vs : Value} {n : Nat} {Q : Int × Int × Nat → Shared → Prop} (hs : s.heap.IsSliceOf sl .none .none vs) (ps : IsPart vs (some (-1)))
    (h : Q ((n : Int) - 1, -1, n) s) : wpAny (model prog w) A (Builtin.Slice.sliceApplied (.ref sl) (pure (n : Int))) Q E s := by
  obtain ⟨os, hos, hcs, hds⟩ := id hs
  unfold Builtin.Slice.sliceApplied Builtin.Slice.sliceFields
  refine wpAny_bind (wpAny_bind (wpAny_field hos hds (x := .none) rfl (wpAny_bind (wpAny_field hos hds (x := .none) rfl (wpAny_bind (wpAny_field hos hds (x := vs) rfl (wpAny_pure ?_)))))))
  refine wpAny_bind (slicePart_ ps ?_)
  show wpAny _ _ (if ((-1 : Int) == 0) = true then _ else _) _ _ s
  rw [if_neg (by decide)]
  refine wpAny_bind (slicePart_none (wpAny_bind (slicePart_none (wpAny_bind (wpAny_pure ?_)))))
  show wpAny _ _ (pure ((n : Int) - 1, (-1 : Int), Builtin.Slice.slicePlaces ((n : Int) - 1) (-1) (-1))) _ _ s
  rw [places_rev]
  exact wpAny_pure h
theorem pick_rev (xs : Array Value) : ((List.range xs.size).filterMap fun (m : Nat) => xs[((xs.size : Int) - 1 + (m : Int) * (-1)).toNat]?).toArray = xs.toList.reverse.toArray := by
  congr 1
  apply List.ext_getElem?
  intro i
  have e : ∀ l : List Nat, (∀ m ∈ l, m < xs.size) → l.filterMap (fun (m : Nat) => xs[((xs.size : Int) - 1 + (m : Int) * (-1)).toNat]?) = l.map fun m => xs.toList.getD (xs.size - 1 - m) Value.none := by
    intro l hl
    induction l with
    | nil => rfl
    | cons a l ih =>
      have ha := hl a List.mem_cons_self
      have e1 : ((xs.size : Int) - 1 + (a : Int) * (-1)).toNat = xs.size - 1 - a := by omega
      rw [List.filterMap_cons, e1, Array.getElem?_eq_getElem (by omega), List.map_cons, ih fun m hm => hl m (List.mem_cons_of_mem _ hm)]
      simp only [List.getD_eq_getElem?_getD, Array.getElem?_toList]
      rw [Array.getElem?_eq_getElem (by omega)]
      rfl
  rw [e _ fun m hm => List.mem_range.mp hm, List.getElem?_map]
  by_cases hi : i < xs.size
  · rw [List.getElem?_eq_getElem (by simpa using hi), List.getElem?_eq_getElem (by simpa using hi)]
    simp only [List.getElem_range, Option.map_some, Option.some.injEq, List.getElem_reverse, Array.length_toList, List.getD_eq_getElem?_getD]
    rw [List.getElem?_eq_getElem (by simp; omega)]
    rfl
  · rw [List.getElem?_eq_none (by simpa using hi), List.getElem?_eq_none (by simpa using hi)]
    rfl
theorem getItem_tuple_rev {t sl : Addr} {items : Array Value} {vs : Value} {Q : Value → Shared → Prop} (ht : IsTup s.heap t items) (hs : s.heap.IsSliceOf sl .none .none vs) (ps : IsPart vs (some (-1)))
    (h : Q (.ref s.heap.objs.size) { s with heap := s.heap.push { cls := .type "tuple", data := .seq items.toList.reverse.toArray } })
    (hsz : items.size ≤ sizeLine) : wpAny (model prog w) A (getItem (.ref t) (.ref sl)) Q E s := by
  have hok : sizeOk (.seq items.toList.reverse.toArray) := by
    show items.toList.reverse.toArray.size ≤ sizeLine
    rw [List.size_toArray, List.length_reverse, Array.length_toList]
    exact hsz
  obtain ⟨os, hos, hcs, hds⟩ := id hs
  have hTs : s.TypeIs (.ref sl) "slice" := ⟨os, hos, hcs⟩
  unfold getItem
  try with_reducible refine wpAny_holding ?_
  first | refine wpAny_bind (wpAny_pure ?_) | skip
  refine wpAny_bind (wpAny_sequenceKey ht.typeIs (by decide) ?_)
  refine wpAny_bind (wpAny_callSpecial?_slot (name := Str.ofString "__getitem__") ht.typeIs slot_tuple_getitem (wpAny_call_entry slot_tuple_getitem ht.typeIs entry_tuple_getitem ?_ (args_tuple_getitem _ _)))
  show wpAny _ _ (Builtin.Tuple.tupleItemsOf (.ref t) >>= _) _ _ s
  refine wpAny_bind (tupleItemsOf_ ht ?_)
  refine wpAny_bind (wpAny_typeOf hTs ?_)
  rw [if_pos (by decide)]
  refine wpAny_bind (applied_rev hs ps ?_)
  have hno : ¬ ((((items.size : Int) - 1) == 0 && (-1 : Int) == 1 && items.size == items.size) = true) := by
    rw [show ((-1 : Int) == 1) = false from rfl]; simp
  show wpAny _ _ (if (((items.size : Int) - 1) == 0 && (-1 : Int) == 1 && items.size == items.size) = true then _ else _) _ _ s
  rw [if_neg hno, pick_rev]
  first
    | exact wpAny_bind (m := Builtin.Tuple.tupleExact _) (wpAny_newObj_type (wpAny_pure ⟨_, rfl, wpAny_pure h⟩) hok)
    | exact wpAny_bind (m := Builtin.Tuple.tupleExact _) (wpAny_newObj_type (wpAny_bind (wpAny_pure (wpAny_pure ⟨_, rfl, wpAny_pure h⟩))) hok)
    | exact wpAny_bind (wpAny_bind (m := Builtin.Tuple.tupleExact _) (wpAny_newObj_type (wpAny_pure (wpAny_pure ⟨_, rfl, wpAny_pure h⟩)) hok))
    | exact wpAny_bind (wpAny_bind (m := Builtin.Tuple.tupleExact _) (wpAny_newObj_type (wpAny_pure ⟨_, rfl, wpAny_pure h⟩) hok))
end
end PxR
namespace Px
open PySem PySem.Spec PyProof.Rows L2
section
variable {B : Base} {k : Nat} {N : List Str} {sc : Scp} {e : Expr} {es : List Expr} {pos : Pos}

/-- x[::-1] of a list or a tuple -/
def tRevS (K : PySem.W.Frag) (te : TE) : TE := fun σ H Q => te σ H fun x H1 => ∃ a xs, x = .ref a ∧ ((SqL K H1 a xs ∧ ∀ p, H1 p = none → Q (.ref p) (upd H1 p (.lst xs.reverse))) ∨ (SqT K H1 a xs ∧ ∀ p, H1 p = none → Q (.ref p) (upd H1 p (.tup xs.reverse))))
theorem pe_revS {X : Cx} {e : Expr} {te : TE} {j : Nat} {p1 p2 p3 pos : Pos} (he : PE X e te) : PE X (.Subscript e (.Slice none none (some (.UnaryOp .USub (.Constant (.int 1) j p1) p2)) p3) pos) (tRevS X.K te) := by
  refine ⟨fun pins s σ H Q I h => ?_⟩
  refine Subscript_ (thn (he.run pins s σ H _ I h) fun v s1 ⟨x, H1, I1, r1, a, xs, ex, q1⟩ => ?_)
  subst ex
  cases r1
  have hst : PO X (some (.UnaryOp .USub (.Constant (.int 1) j p1) p2)) (tPart (tUn (rU fun i => .int (-i)) (tC (.int 1)))) := po_some (pe_un un_neg pe_int)
  refine wpAny_Slice ?_
  rw [evalPart_none]
  refine wpAny_pure (wpAny_pure ?_)
  refine thn (hst.run pins s1 σ H1 (fun o H4 => o = some (-1) ∧ H4 = H1) I1 ⟨1, rfl, -1, rfl, rfl, rfl⟩) fun vs s4 ⟨o, H4, I4, ps, eo, e4⟩ => ?_
  subst eo e4
  have I5 : Inv X pins σ H4 { s4 with heap := s4.heap.push { cls := .type "slice", data := .fields #[.none, .none, vs] } } := I4.kept (t' := s4.toks) fun b ob q => Heap.get?_push_of_some _ q
  show wpAny (model X.prog X.w) X.A (subscriptTail e (.Slice none none (some (.UnaryOp .USub (.Constant (.int 1) j p1) p2)) p3) (.ref a) (.ref s4.heap.objs.size)) (EP X pins σ Q) X.xe { s4 with heap := s4.heap.push { cls := .type "slice", data := .fields #[.none, .none, vs] } }
  rcases q1 with ⟨hx, q⟩ | ⟨hx, q⟩
  · obtain ⟨its, r, ht, hz⟩ := I5.list hx
    have hlen := r.length
    refine tail_any (ops := [.ref a, .ref s4.heap.objs.size]) ht.isList.typeIs (PySem.slot_list_getitem.lookup) ?_ (by with_unfolding_all rfl)
    refine wpAny_getItem_list_slice ht.isList (Heap.IsSliceOf.new _ .none .none vs) .none .none ps (by decide) ?_ (by rw [List.size_toArray]; omega)
    rw [PySem.W.krv_pick]
    refine ⟨.ref _, _, I5.laid (t' := s4.toks) (o := .lst xs.reverse) (fun b ob q => Heap.get?_push_of_some _ q) (Nat.le_refl _) ?_, rfl, q _ (I5.hok.fresh (Nat.le_refl _))⟩
    exact ⟨by rw [List.length_reverse]; exact hz, _, 0, r.reverse, Heap.get?_push_size _ rfl⟩
  · obtain ⟨its, r, ht, hz⟩ := I5.tuple hx
    have hlen := r.length
    refine tail_any (ops := [.ref a, .ref s4.heap.objs.size]) ht.typeIs (slot_tuple_getitem.lookup) ?_ (by with_unfolding_all rfl)
    refine PxR.getItem_tuple_rev ht (Heap.IsSliceOf.new _ .none .none vs) ps ?_ (by rw [List.size_toArray]; omega)
    refine ⟨.ref _, _, I5.laid (t' := s4.toks) (o := .tup xs.reverse) (fun b ob q => Heap.get?_push_of_some _ q) (Nat.le_refl _) ?_, rfl, q _ (I5.hok.fresh (Nat.le_refl _))⟩
    exact ⟨by rw [List.length_reverse]; exact hz, _, r.reverse, IsTup.new _ _⟩
theorem ie_rev {ma : Env → Sto → R T} {j : Nat} {p1 p2 p3 : Pos} (ha : IE B k N sc e ma) : IE B k N sc (.Subscript e (.Slice none none (some (.UnaryOp .USub (.Constant (.int 1) j p1) p2)) p3) pos) (fun ρ S => (ma ρ S).bind fun x S => R.opt (revT (vw S x)) S) := fun X s => by
  refine PE.imp (pe_revS (ha X s)) fun σ H Q ⟨φ, ρ, S, hS, hE, hp⟩ => ?_
  refine ⟨φ, ρ, S, hS, hE, hp.bind fun t S1 φ1 H1 v _ e1 hS1 rv hp1 => ?_⟩
  obtain ⟨t3, ht, hq⟩ := hp1.opt
  rw [s.hK]
  cases ea : vw S1 t with
  | tup xs =>
    rw [ea] at ht
    cases ht
    obtain ⟨p, vs, rfl, h1, q1⟩ := seen_tup rv ea
    exact ⟨p, vs, rfl, .inr ⟨h1, post_tup hq hS1 q1.reverse⟩⟩
  | vl xs =>
    rw [ea] at ht
    cases ht
    obtain ⟨p, vs, rfl, h1, q1⟩ := seen_list hS1 rv ea
    exact ⟨p, vs, rfl, .inl ⟨.of h1, post_lst hq hS1 q1.reverse⟩⟩
  | _ => rw [ea] at ht; cases ht

/-! ### methods -/
theorem base_plain {o : Expr} {name : Str} {env : PySem.Env} (h : ∀ f as ks p, o ≠ .Call f as ks p) : attributeBase o name env (eval o env) = eval o env := by
  unfold attributeBase
  cases o <;> first | rfl | exact absurd rfl (h _ _ _ _)
theorem few_ok {e : Expr} {es : List Expr} {cpos : Pos} {env : PySem.Env} (hs : (e :: es).any isStar = false) (hl : (e :: es).length < 30) :
    ((backTo cpos (starEach (e :: es) env)).all (fun x => !x.1) && (backToKw cpos (keywordEach [] env)).all (fun x => x.1.isSome) && decide ((e :: es).length + ([] : List Keyword).length + (if ([] : List Keyword).isEmpty then 0 else 1) < 30)) = true := by
  have h1 : (backTo cpos (starEach (e :: es) env)).all (fun x => !x.1) = true := by
    have := star_none (env := env) (pos := cpos) hs
    rw [List.all_eq_not_any_not]
    simpa using this
  have h2 : (backToKw cpos (keywordEach [] env)).all (fun x => x.1.isSome) = true := rfl
  rw [h1, h2]
  simpa using hl
/-- a method that changes a list of the store -/
def MthI (X : Cx) (B : Base) (m : Str) (r : V → List V → Hp → VK → Prop) : Prop := ∀ φ S H l a ys vs xs us Q, RelS B.K B.mg B.hid φ S H → φ[l]? = some a → S[l]? = some (.lst ys) → H a = some (.lst us) → B.reps φ H us ys → B.reps φ H vs xs → Post B B.rep φ H (mthS m l ys xs S) Q → r (.ref a) vs H Q
theorem ie_mthL {o : Expr} {name m : Str} {id : String} {apos : Pos} {mo : Env → Sto → R T} {ms : Env → Sto → R (List T)} {f : T → List T → Option T} {r : V → List V → Hp → VK → Prop} (slot : Slot "list" name id) (hty : typeOf (.builtin id) = pure (.type "method_descriptor"))
    (hm : ∀ X, MtR X id r) (hr : ∀ X, MthI X B m r) (hf : ∀ x ts, f x ts = none) (ho : IE B k N sc o mo) (ha : IA B k N sc (e :: es) ms) (hb : ∀ f as ks p, o ≠ .Call f as ks p) (hline : (apos.endLine == pos.line) = true) (hs : (e :: es).any isStar = false) (hl : (e :: es).length < 30) :
    IE B k N sc (.Call (.Attribute o name apos) (e :: es) [] pos) (fun ρ S => (mo ρ S).bind fun x S => (match x with
      | .loc l => (match S[l]? with
        | some (.lst _) => (ms ρ S).bind fun xs S => (match S[l]? with
          | some (.lst ys) => mthS m l ys xs S
          | _ => .bad)
        | _ => .bad)
      | x => (ms ρ S).bind fun xs S => R.opt (f x xs) S)) := fun X s => by
  have hs' := hs
  rw [List.any_cons, Bool.or_eq_false_iff] at hs'
  refine PE.imp (pe_bm PySem.F.plainAttrs_list slot hty (hm X) (ho X s) (ha X s) (base_plain hb) (few_ok hs hl) hline (star_head hs'.1) (star_none hs'.2)) fun σ H Q ⟨φ, ρ, S, hS, hE, hp⟩ => ?_
  refine ⟨φ, ρ, S, hS, hE, hp.bind fun t S1 φ1 H1 v _ e1 hS1 rv hp1 => ?_⟩
  cases t with
  | loc l =>
    simp only at hp1
    cases eS : S1[l]? with
    | none => rw [eS] at hp1; exact hp1.elim
    | some ob =>
      rw [eS] at hp1
      cases ob with
      | lst zs =>
        simp only at hp1
        obtain ⟨a, ho, hφ, hH, hO⟩ := hS1.at eS
        cases rv with
        | loc h' =>
          rw [hφ] at h'; cases h'
          cases hO with
          | @lst ws _ q =>
            refine ⟨.inl ⟨rfl, ws, by rw [s.hK]; exact .of hH⟩, φ1, ρ, S1, hS1, hE.ext e1, hp1.bind fun xs S2 φ2 H2 vs _ e2 hS2 rv2 hp2 => ?_⟩
            cases eS2 : S2[l]? with
            | none => rw [eS2] at hp2; exact hp2.elim
            | some ob2 =>
              rw [eS2] at hp2
              cases ob2 with
              | lst ys =>
                simp only at hp2
                have hφ2 : φ2[l]? = some _ := prefix_get e2.pre hφ
                obtain ⟨ho2, hH2, hO2⟩ := hS2.obj l _ _ hφ2 eS2
                cases hO2 with
                | lst q2 => exact hr X φ2 S2 H2 l _ ys vs xs _ Q hS2 hφ2 eS2 hH2 q2 rv2 hp2
              | _ => exact hp2.elim
      | _ => exact hp1.elim
  | _ =>
    exfalso
    simp only [hf] at hp1
    revert hp1
    cases ms ρ S1 <;> exact fun h => h
theorem mth_append (X : Cx) : MthI X B "append" rAppend := fun φ S H l a ys vs xs us Q hS hφ hl hH q qv hp => by
  match xs, hp with
  | [t], hp =>
    have hp : Post B B.rep φ H (if ys.length < lim then .ok .non (S.set l (.lst (ys ++ [t]))) else .bad) Q := hp
    split at hp
    · rename_i hz
      obtain ⟨v, rfl, rv⟩ := reps1 qv
      refine ⟨a, us, v, rfl, rfl, hH, by rw [q.length]; exact hz, ?_⟩
      exact hp φ _ _ (Ext.write (List.mem_of_getElem? hφ)) (hS.write hφ (.lst (q.append (.cons rv .nil)))) .non
    · exact hp.elim
  | [], hp => exact hp.elim
  | _ :: _ :: _, hp => exact hp.elim
theorem mth_extend (X : Cx) : MthI X B "extend" rExtend := fun φ S H l a ys vs xs us Q hS hφ hl hH q qv hp => by
  match xs, hp with
  | [t], hp =>
    have hp : Post B B.rep φ H (match vw S t with
      | .vl zs => if ys.length + zs.length ≤ lim then .ok .non (S.set l (.lst (ys ++ zs))) else .bad
      | _ => .bad) Q := hp
    cases et : vw S t with
    | vl zs =>
      rw [et] at hp
      simp only at hp
      split at hp
      · rename_i hz
        obtain ⟨v, rfl, rv⟩ := reps1 qv
        obtain ⟨p, ws, rfl, h1, q1⟩ := seen_list hS rv et
        refine ⟨a, p, us, ws, rfl, rfl, hH, h1, by rw [q.length, q1.length]; exact hz, ?_⟩
        exact hp φ _ _ (Ext.write (List.mem_of_getElem? hφ)) (hS.write hφ (.lst (q.append q1))) .non
      · exact hp.elim
    | _ => rw [et] at hp; exact hp.elim
  | [], hp => exact hp.elim
  | _ :: _ :: _, hp => exact hp.elim
theorem mth_popAt (X : Cx) : MthI X B "pop" rPopAt := fun φ S H l a ys vs xs us Q hS hφ hl hH q qv hp => by
  match xs, hp with
  | [t], hp =>
    cases t with
    | int i =>
      have hp : Post B B.rep φ H (match (gd (decide (-4611686018427387904 < i) && decide (i < 4611686018427387904)) ()).bind fun _ => ixN ys.length i with
        | some k => (match ys[k]? with
          | some v => .ok v (S.set l (.lst (ys.eraseIdx k)))
          | none => .bad)
        | none => .bad) Q := hp
      cases e1 : (gd (decide (-4611686018427387904 < i) && decide (i < 4611686018427387904)) ()).bind fun _ => ixN ys.length i with
      | none => rw [e1] at hp; exact hp.elim
      | some j =>
        rw [e1] at hp
        simp only at hp
        obtain ⟨u, hu, hj⟩ := Option.bind_eq_some_iff.mp e1
        have hb := (gd_some hu).1
        simp only [Bool.and_eq_true, decide_eq_true_eq] at hb
        cases e2 : ys[j]? with
        | none => rw [e2] at hp; exact hp.elim
        | some t =>
          rw [e2] at hp
          simp only at hp
          obtain ⟨v, rfl, rv⟩ := reps1 qv
          cases rv
          obtain ⟨w, hw, rw3⟩ := q.get e2
          refine ⟨a, us, i, j, w, rfl, rfl, hH, by omega, by omega, by rw [q.length]; exact (ixN_seq hj).1, hw, ?_⟩
          exact hp φ _ _ (Ext.write (List.mem_of_getElem? hφ)) (hS.write hφ (.lst (q.eraseIdx j))) (rw3.ext (Ext.write (List.mem_of_getElem? hφ)))
    | _ => exact hp.elim
  | [], hp => exact hp.elim
  | t0 :: _ :: _, hp => cases t0 <;> exact hp.elim
theorem mth_insert (X : Cx) : MthI X B "insert" (fun x vs H Q => ∃ (l : Addr) (xs : List V) (i : Int) (y : V), x = .ref l ∧ vs = [.int i, y] ∧ H l = some (.lst xs) ∧ xs.length < sizeLine ∧ 0 ≤ i ∧ i < 2 ^ 63 ∧
    Q .non (upd H l (.lst (xs.take i.toNat ++ [y] ++ xs.drop i.toNat)))) := fun φ S H l a ys vs xs us Q hS hφ hl hH q qv hp => by
  match xs, hp with
  | [t0, t], hp =>
    cases t0 with
    | int i =>
      have hp : Post B B.rep φ H (if 0 ≤ i ∧ i < 4611686018427387904 ∧ ys.length < lim then .ok .non (S.set l (.lst (ys.take i.toNat ++ t :: ys.drop i.toNat))) else .bad) Q := hp
      split at hp
      · rename_i hz
        obtain ⟨v, w, rfl, rv, rw2⟩ := reps2 qv
        cases rv
        refine ⟨a, us, i, w, rfl, rfl, hH, by rw [q.length]; exact hz.2.2, hz.1, by omega, ?_⟩
        refine hp φ _ _ (Ext.write (List.mem_of_getElem? hφ)) (hS.write hφ (.lst ?_)) .non
        rw [List.append_assoc]
        exact (q.take _).append (.cons rw2 (q.drop _))
      · exact hp.elim
    | _ => exact hp.elim
  | [], hp => exact hp.elim
  | [t0], hp => cases t0 <;> exact hp.elim
  | t0 :: _ :: _ :: _, hp => cases t0 <;> exact hp.elim
/-! ### xs.count(y) of data -/
theorem count_items {A : Around} {s : Shared} {d : PyData} {v : Value} {bs : List Addr} (rv : Reads s.heap v d bs) (hd : d.canLay0 = true) (hz : A.units + 60 < cLine) (hdd : d.depth ≤ 60) : ∀ {us : List Value} {ds : List PyData} {as : List Addr}, ReadsAll s.heap us ds as →
    PyData.canLayAll0 ds = true → us.countP (eqRd s.heap d) = ds.countP fun e => PyData.eqv e d
  | _, _, _, .nil, _ => rfl
  | _, _, _, .cons (d := e) r rs, hc => by
    have hc' := Bool.and_eq_true_iff.mp hc
    have ih := count_items rv hd hz hdd rs hc'.2
    rw [List.countP_cons, List.countP_cons, ih, eqRd_eq r hc'.1]
def rCnt (K : PySem.W.Frag) : V → List V → Hp → VK → Prop := fun x ys H Q => ∃ p y xs d ds, x = .ref p ∧ ys = [y] ∧ SqL K H p xs ∧ Dp K H y d ∧ DpAll K H xs ds ∧ d.canLay0 = true ∧ PyData.canLayAll0 ds = true ∧ d.depth ≤ 60 ∧ Q (.int (ds.countP fun e => PyData.eqv e d)) H
theorem mt_cnt {X : Cx} (hu : X.A.units + 64 < cLine) : MtR X "list.count" (rCnt X.K) := by
  intro pins s σ H x ys v us Q I rx rys h
  obtain ⟨p, y, xs, d, ds, rfl, rfl, hs, hd, hds, c1, c2, z, q⟩ := h
  cases rx
  obtain ⟨u, rfl, ru⟩ := rys.one
  obtain ⟨bs, rd⟩ := Dp.reads I d y u hd ru
  obtain ⟨its, rv, ⟨⟨cls, dd, data, sl⟩, n, ho, hc, hdn, hdat⟩, hlen⟩ := I.list hs
  simp only at hc hdat
  subst hc hdat
  obtain ⟨as, ra⟩ := Dp.readsAll I ds xs its hds rv
  have hu2 : X.A.in1.in1.units + 60 < cLine := by show X.A.units + 1 + 1 + 60 < cLine; omega
  have ec := count_items (A := X.A.in1.in1) rd c1 hu2 z ra c2
  refine call_meets PySem.F.slot_list_count ⟨_, ho, rfl⟩ PySem.F.entry_list_count (PySem.F.args_list_count_2 _ _)
    (SeqAt.list_countAt p its.toArray n dd sl u (eqRd s.heap d)) ⟨ho, fun w hw => (in_items rd c1 ?_ z ra c2).1 w (by simpa using hw), ⟨.int (ds.countP fun e => PyData.eqv e d), H, I.tok _, ⟨s.toks, ?_⟩, q⟩⟩
  · first | exact hu2 | (show X.A.units + 1 + 60 < cLine; omega) | (show X.A.units + 1 + 1 + 60 < cLine; omega) | (show X.A.units + 1 + 1 + 1 + 60 < cLine; omega)
  · show Value.int ((its.toArray.toList.countP (eqRd s.heap d) : Nat) : Int) s.toks = _
    rw [show its.toArray.toList = its by simp, ec]
theorem mths_count {l : Nat} {ys xs : List T} {S : Sto} : mthS "count" l ys xs S = .bad := by rfl
theorem datL_count (x : T) : ∀ ys : List T, (T.datL ys).countP (fun e => PyData.eqv e x.dat) = ys.countP fun y => y.dat.eqv x.dat
  | [] => rfl
  | y :: ys => by
    show ((y.dat :: T.datL ys).countP _) = _
    rw [List.countP_cons, List.countP_cons, datL_count x ys]
theorem ie_count {o : Expr} {apos : Pos} {mo : Env → Sto → R T} {ms : Env → Sto → R (List T)} (ho : IE B k N sc o mo) (ha : IA B k N sc (e :: es) ms) (hb : ∀ f as ks p, o ≠ .Call f as ks p) (hline : (apos.endLine == pos.line) = true) (hs : (e :: es).any isStar = false) (hl : (e :: es).length < 30) :
    IE B k N sc (.Call (.Attribute o "count" apos) (e :: es) [] pos) (fun ρ S => (mo ρ S).bind fun x S => (match x with
      | .loc l => (match S[l]? with
        | some (.lst _) => (ms ρ S).bind fun xs S => (match S[l]? with
          | some (.lst ys) => mthS "count" l ys xs S
          | _ => .bad)
        | _ => .bad)
      | x => (ms ρ S).bind fun xs S => R.opt (mthT "count" x xs) S)) := fun X s => by
  have hs' := hs
  rw [List.any_cons, Bool.or_eq_false_iff] at hs'
  refine PE.imp (pe_bm PySem.F.plainAttrs_list PySem.F.slot_list_count PySem.F.type_list_count (mt_cnt s.room.units) (ho X s) (ha X s) (base_plain hb) (few_ok hs hl) hline (star_head hs'.1) (star_none hs'.2)) fun σ H Q ⟨φ, ρ, S, hS, hE, hp⟩ => ?_
  refine ⟨φ, ρ, S, hS, hE, hp.bind fun t S1 φ1 H1 v _ e1 hS1 rv hp1 => ?_⟩
  cases t with
  | vl xs =>
    cases rv with
    | @vl a vs _ h n r =>
      simp only at hp1
      refine ⟨.inl ⟨rfl, vs, by rw [s.hK]; exact .of h⟩, φ1, ρ, S1, hS1, hE.ext e1, hp1.bind fun ts S2 φ2 H2 ws _ e2 hS2 rv2 hp2 => ?_⟩
      match ts, hp2 with
      | [], hp2 => exact hp2.elim
      | _ :: _ :: _, hp2 => exact hp2.elim
      | [t], hp2 =>
        have hp2 : Post B B.rep φ2 H2 (R.opt (gd (t.flat && T.flatL xs && decide (t.dat.depth ≤ 60)) (T.int (xs.countP fun y => y.dat.eqv t.dat))) S2) Q := hp2
        obtain ⟨f, hq⟩ := Post.gd hp2
        simp only [Bool.and_eq_true, decide_eq_true_eq] at f
        cases rv2 with
        | cons rt rr =>
          cases rr
          rw [s.hK]
          refine ⟨a, _, vs, t.dat, T.datL xs, rfl, rfl, .of (e2.keep _ _ h n.1), dp_of rt f.1.1, dpAll_of (r.ext e2) f.1.2, canLay_of f.1.1, canLayL_of f.1.2, f.2, ?_⟩
          rw [datL_count]
          exact hq.ok hS2 (.int _)
  | loc l =>
    exfalso
    simp only at hp1
    revert hp1
    cases S1[l]? with
    | none => exact fun h => h
    | some ob =>
      cases ob with
      | lst ys =>
        simp only
        cases ms ρ S1 with
        | ok xs S2 =>
          simp only [R.bind_ok]
          cases S2[l]? with
          | none => exact fun h => h
          | some ob => cases ob <;> exact fun h => h
        | exc => exact fun h => h
        | bad => exact fun h => h
      | _ => exact fun h => h
  | _ =>
    exfalso
    simp only at hp1
    revert hp1
    cases ms ρ S1 <;> exact fun h => h
/-- s.upper() -/
theorem ie_upper {o : Expr} {apos : Pos} {mo : Env → Sto → R T} (ho : IE B k N sc o mo) (hb : ∀ f as ks p, o ≠ .Call f as ks p) (hline : (apos.endLine == pos.line) = true) :
    IE B k N sc (.Call (.Attribute o "upper" apos) [] [] pos) (fun ρ S => (mo ρ S).bind fun x S => (match x with
      | .loc l => (match S[l]? with
        | some (.lst _) => (R.ok ([] : List T) S).bind fun xs S => (match S[l]? with
          | some (.lst ys) => mthS "upper" l ys xs S
          | _ => .bad)
        | _ => .bad)
      | x => (R.ok ([] : List T) S).bind fun xs S => R.opt (mthT "upper" x xs) S)) := fun X s => by
  refine PE.imp (pe_upper (ho X s) (base_plain hb) hline) fun σ H Q ⟨φ, ρ, S, hS, hE, hp⟩ => ?_
  refine ⟨φ, ρ, S, hS, hE, hp.bind fun t S1 φ1 H1 v _ e1 hS1 rv hp1 => ?_⟩
  cases t with
  | str x =>
    cases rv
    simp only [R.bind_ok] at hp1
    obtain ⟨t, ht, hq⟩ := Post.opt hp1
    obtain ⟨hz, rfl⟩ := gd_some (show gd (decide (x.length ≤ 5592405)) (T.str (Txt.upper x)) = some t from ht)
    exact ⟨⟨x, rfl⟩, x, rfl, rfl, of_decide_eq_true hz, hq.ok hS1 (.str _)⟩
  | loc l =>
    exfalso
    simp only [R.bind_ok] at hp1
    revert hp1
    cases S1[l]? with
    | none => exact fun h => h
    | some ob => cases ob <;> exact fun h => h
  | _ => exact hp1.elim
end
end Px
end
section
set_option linter.all false
set_option maxRecDepth 100000
/-! Px8b: d.get(key, value) of a dict of the module. -/
namespace Px
open PySem PySem.Spec PyProof.Rows L2 He
section
variable {X : Cx}
/-- d.get(y, z), d a dict of the module -/
def rKGet (K : PySem.W.Frag) (w : World) : V → List V → Hp → VK → Prop := fun x ys H Q => ∃ p z d, x = .ref p ∧ ys = [.str z, d] ∧ (p == sysModules) = false ∧ ((∃ v, KDct K w p z v ∧ Q v H) ∨ (KMiss K w p z ∧ Q d H))
theorem mt_kget : MtR X "dict.get" (rKGet X.K X.w) := by
  intro pins s σ H x ys v us Q I rx rys h
  obtain ⟨p, z, d, rfl, rfl, hd, h⟩ := h
  cases rx
  obtain ⟨u, ud, rfl, ru, rd⟩ := rys.two
  obtain ⟨t, rfl⟩ := (show ∃ t, u = Value.str z t from ru)
  rcases h with ⟨v0, ⟨es, n, u0, hl, hk, e, r0⟩, q⟩ | ⟨⟨es, n, hl, hk, low, e⟩, q⟩
  · have hm := PySem.W.mapOf_K (prog := X.prog) (w := X.w) I.kIn hl hk
    refine call_meetsIn PySem.F.slot_dict_get hm.typeIs PySem.F.entry_dict_get (PySem.F.args_dict_get_3 _ _ _) (meets_dict_get_default (strKind X.prog X.w) p (strKind_is X.prog X.w z t) hd ud) ⟨_, hm, ?_⟩
    rw [PySem.W.find_K hl e]
    exact ⟨v0, H, I.tok _, r0, q⟩
  · have hm := PySem.W.mapOf_K (prog := X.prog) (w := X.w) I.kIn hl hk
    refine call_meetsIn PySem.F.slot_dict_get hm.typeIs PySem.F.entry_dict_get (PySem.F.args_dict_get_3 _ _ _) (meets_dict_get_default (strKind X.prog X.w) p (strKind_is X.prog X.w z t) hd ud) ⟨_, hm, ?_⟩
    rw [PySem.W.find_K hl e]
    exact ⟨d, H, I.tok _, rd, q⟩
def tBMD (K : PySem.W.Frag) (r : V → List V → Hp → VK → Prop) (to : TE) (t : TA) : TE := fun σ H Q => to σ H fun x H1 => (∃ p es n, x = .ref p ∧ K.lookup p = some ⟨.type "dict", none, .dict es n, #[]⟩) ∧ t σ H1 fun xs H2 => r x xs H2 Q
theorem pe_bmD {o e : Expr} {es : List Expr} {to : TE} {t : TA} {name : Str} {apos cpos : Pos} {id : String} {r : V → List V → Hp → VK → Prop} (slot : Slot "dict" name id) (hty : typeOf (.builtin id) = pure (.type "method_descriptor")) (hm : MtR X id r) (ho : PE X o to) (ha : PA X (e :: es) t)
    (hbase : attributeBase o name X.env (eval o X.env) = eval o X.env := by rfl)
    (hfew : ((backTo cpos (starEach (e :: es) X.env)).all (fun x => !x.1) && (backToKw cpos (keywordEach [] X.env)).all (fun x => x.1.isSome)
      && decide ((e :: es).length + ([] : List Keyword).length + (if ([] : List Keyword).isEmpty then 0 else 1) < 30)) = true := by rfl)
    (hline : (apos.endLine == cpos.line) = true := by rfl) (hs : starEach (e :: es) X.env = (false, eval e X.env) :: starEach es X.env := by rfl) (hplain : (backTo cpos (starEach es X.env)).any (·.1) = false := by rfl) :
    PE X (.Call (.Attribute o name apos) (e :: es) [] cpos) (tBMD X.K r to t) := by
  refine ⟨fun pins s σ H Q I h => ?_⟩
  refine wpAny_Call_method_late hbase hfew hline rfl (thn (ho.run pins s σ H _ I h) fun v s1 ⟨x, H1, I1, r1, ty, q1⟩ => ?_)
  obtain ⟨p, es', n, rfl, hl⟩ := ty
  cases r1
  refine ⟨"dict", id, PySem.F.plainAttrs_dict, slot, hty, ⟨_, I1.kIn _ _ hl, rfl⟩, fun a e => ?_, ?_⟩
  · cases e
    exact ⟨_, I1.kIn _ _ hl, rfl⟩
  have hA := ha.run cpos pins s1 σ H1 _ I1 q1
  rw [hs] at hA ⊢
  refine Calls.callWith_builtin (by show (false || (backTo cpos (starEach es X.env)).any (·.1)) = false; rw [hplain] <;> rfl) (Calls.evalArgs_plain ?_)
  exact thn hA fun us s2 ⟨vs, H2, I2, r2, q2⟩ => hm pins s2 σ H2 (.ref p) vs (.ref p) us Q I2 rfl r2 q2
end
/-- the module's dict x: its keys, its values -/
def KD (B : Base) (x : Str) (ks : List Str) (vs : List T) : Prop := ∃ a, B.mg x = some (.ref a) ∧ dicW B.K a = some (keysIn B.w.params ks) ∧ ks.length = vs.length ∧
  ∀ p ∈ ks.zip vs, ∃ u v, PySem.W.nsIn B.K a p.1 = some (some u) ∧ RelV v u ∧ ∀ ψ φ H, Rep B.K B.mg ψ φ H v p.2
theorem KD.wi {B : Base} {x : Str} {ks : List Str} {vs : List T} (h : KD B x ks vs) (ψ : List Addr) : KD (B.wi ψ) x ks vs := h
theorem getT_mem {z : Str} {d : T} : ∀ {ks : List Str} {vs : List T}, ks.length = vs.length → (z ∉ ks ∧ getT z (ks.map .str) vs d = d) ∨ ∃ p ∈ ks.zip vs, p.1 = z ∧ getT z (ks.map .str) vs d = p.2
  | [], [], _ => .inl ⟨by simp, rfl⟩
  | x :: ks, v :: vs, h => by
    by_cases e : x = z
    · refine .inr ⟨(x, v), by simp, e, ?_⟩
      show (if x = z then v else _) = v
      rw [if_pos e]
    · have g : getT z ((x :: ks).map .str) (v :: vs) d = getT z (ks.map .str) vs d := by
        show (if x = z then v else _) = _
        rw [if_neg e]
      rcases getT_mem (z := z) (d := d) (ks := ks) (vs := vs) (by simpa using h) with ⟨h1, h2⟩ | ⟨p, hp, h1, h2⟩
      · exact .inl ⟨by simp [h1, Ne.symm e], by rw [g, h2]⟩
      · exact .inr ⟨p, by simp [List.zip_cons_cons, hp], h1, by rw [g, h2]⟩
  | [], _ :: _, h => by simp at h
  | _ :: _, [], h => by simp at h
theorem ns_miss {K : PySem.W.Frag} {P : Params} {a : Addr} {ks : List Str} {es : Array DictEntry} {n : Nat} {z : Str} (hl : K.lookup a = some ⟨.type "dict", none, .dict es n, #[]⟩) (hk : es.toList.map He.keyOf = keysIn P ks) (hz : z ∉ ks) : PySem.W.nsIn K a z = some none := by
  unfold PySem.W.nsIn
  rw [hl]
  dsimp only
  have key : ∀ (l : List DictEntry) (ks : List Str), l.map He.keyOf = keysIn P ks → z ∉ ks → l.find? (·.key.isStr z) = none ∧ l.any (·.refKey) = false := by
    intro l
    induction l with
    | nil => intro ks _ _; exact ⟨rfl, rfl⟩
    | cons e r ih =>
      intro ks h hz
      cases ks with
      | nil => cases h
      | cons k ks =>
        have h1 : He.keyOf e :: r.map He.keyOf = some (k, PyData.keyHash P k) :: keysIn P ks := h
        injection h1 with h2 h3
        obtain ⟨i1, i2⟩ := ih ks h3 (fun q => hz (List.mem_cons_of_mem _ q))
        unfold He.keyOf at h2
        split at h2
        · rename_i x t q
          have h4 := Option.some.inj h2
          obtain ⟨h5, h6⟩ := Prod.mk.inj h4
          subst h5
          have hne : x ≠ z := fun q => hz (by rw [q]; exact List.mem_cons_self)
          have f1 : e.key.isStr z = false := by
            rw [q]
            simp [Value.isStr, hne]
          have f2 : e.refKey = false := by
            unfold DictEntry.refKey
            rw [q]
          rw [List.find?_cons, List.any_cons, f1, f2, i2]
          exact ⟨i1, rfl⟩
        · cases h2
  obtain ⟨h1, h2⟩ := key es.toList ks hk hz
  rw [h1, h2]
  rfl
section
variable {B : Base} {k : Nat} {N : List Str} {sc : Scp} {pos : Pos}
theorem dic_at {K : PySem.W.Frag} {w : World} {a : Addr} {ks : List Str} (h : dicW K a = some (keysIn w.params ks)) : ∃ es n, K.lookup a = some ⟨.type "dict", none, .dict es n, #[]⟩ ∧ PySem.W.KeysLit w.params es.toList ∧ (a == sysModules) = false ∧ es.toList.map He.keyOf = keysIn w.params ks := by
  unfold dicW at h
  split at h
  · rename_i c es n sl hl
    split at h
    · rename_i hb
      simp only [Bool.and_eq_true, decide_eq_true_eq, Bool.not_eq_true'] at hb
      obtain ⟨rfl, h1, h2⟩ := hb
      have h3 : sl = #[] := by simpa using h1
      subst h3
      have h4 := Option.some.inj h
      exact ⟨es, n, hl, keysLit_of h4, h2, h4⟩
    · cases h
  · cases h
theorem ie_kget {x : Str} {ks : List Str} {vs : List T} {px apos : Pos} {a b : Expr} {d : T} {ma : Env → Sto → R T} (hg : sc.names.lookup x = some .globalImplicit) (hdb : (x == ("__debug__" : Str)) = false) (D : KD B x ks vs) (ha : IE B k N sc a ma)
    (hb : IE B k N sc b (fun _ S => .ok d S)) (hline : (apos.endLine == pos.line) = true) (hs : [a, b].any isStar = false) :
    IE B k N sc (.Call (.Attribute (.Name x px) "get" apos) [a, b] [] pos) (fun ρ S => (ma ρ S).bind fun y S => R.opt (bifT "get" [.tup (ks.map .str), .tup vs, y, d]) S) := fun X s => by
  obtain ⟨p, hm, hd, hl, hv⟩ := D
  have hs' := hs
  rw [List.any_cons, Bool.or_eq_false_iff] at hs'
  have hn : IE B k N sc (.Name x px) (fun _ S => .ok (.gl x) S) := ie_glob hg hm (v := .ref p) rfl (fun φ H => .gl hm) hdb
  have hs2 := hs'.2
  rw [List.any_cons, Bool.or_eq_false_iff] at hs2
  have hA := ia_cons hs'.1 ha (ia_cons hs2.1 hb ia_nil)
  refine PE.imp (pe_bmD PySem.F.slot_dict_get PySem.F.type_dict_get mt_kget (hn X s) (hA X s) (base_plain (fun _ _ _ _ => by simp)) (few_ok hs (show 2 < 30 by decide)) hline (star_head hs'.1) (star_none hs'.2)) fun σ H Q ⟨φ, ρ, S, hS, hE, hp⟩ => ?_
  refine ⟨φ, ρ, S, hS, hE, ?_⟩
  obtain ⟨es, n, hl1, hl2, hl3, hl4⟩ := dic_at hd
  rw [s.hK, s.hw]
  intro φ1 H1 v e1 hS1 rv
  have ev : v = .ref p := by
    cases rv with
    | gl h =>
      have := h.symm.trans hm
      cases this; rfl
  subst ev
  refine ⟨⟨p, es, n, rfl, hl1⟩, φ1, ρ, S, hS1, hE.ext e1, ?_⟩
  show Post B B.reps φ1 H1 ((ma ρ S).bind fun x S => R.ok [x, d] S) _
  cases hma : ma ρ S with
  | bad => simp only [hma, R.bind] at hp; exact hp.elim
  | exc => simp only [hma, R.bind] at hp; exact hp.elim
  | ok y S2 =>
    simp only [hma, R.bind_ok] at hp
    intro φ2 H2 ws e2 hS2 rws
    obtain ⟨w1, w2, rfl, r1, r2⟩ := reps2 rws
    cases y with
    | str z =>
      cases r1
      have hp : Post B B.rep φ H (R.ok (getT z (ks.map .str) vs d) S2) Q := hp
      refine ⟨p, z, w2, rfl, rfl, hl3, ?_⟩
      rcases getT_mem (z := z) (d := d) hl with ⟨h1, h2⟩ | ⟨q, hq, h1, h2⟩
      · refine .inr ⟨⟨es, n, hl1, hl2, hl3, ns_miss hl1 hl4 h1⟩, ?_⟩
        rw [h2] at hp
        exact hp φ2 H2 w2 (e1.trans e2) hS2 r2
      · obtain ⟨u, v, a1, a2, a3⟩ := hv q hq
        subst h1
        refine .inl ⟨v, ⟨es, n, u, hl1, hl2, a1, a2⟩, ?_⟩
        rw [h2] at hp
        exact hp φ2 H2 v (e1.trans e2) hS2 (a3 _ _ _)
    | _ => exact hp.elim
end
end Px
end
section
set_option linter.all false
set_option maxRecDepth 100000
/-! Px9: targets, what is walked, comprehensions, dict displays. -/
namespace Px
open PySem PySem.Spec PyProof.Rows L2

/-! ### an object that is hidden -/
section
variable {K : PySem.W.Frag} {mg : Str → Option Value} {ψ φ : List Addr} {H : Hp} {p : Addr}
def del (H : Hp) (p : Addr) : Hp := fun b => if b = p then none else H b
theorem del_same : del H p p = none := by unfold del; rw [if_pos rfl]
theorem del_ne {b : Addr} (h : b ≠ p) : del H p b = H b := by unfold del; rw [if_neg h]
theorem upd_del {o : HO} (h : H p = some o) : upd (del H p) p o = H := by
  funext b
  by_cases e : b = p
  · subst e; rw [upd_same, h]
  · rw [upd_ne e, del_ne e]
/-- the same at all but p -/
def But (p : Addr) (H H' : Hp) : Prop := ∀ b, b ≠ p → H' b = H b
theorem But.upd {o : HO} : But p H (L2.upd H p o) := fun b h => upd_ne h
theorem But.del : But p H (del H p) := fun b h => del_ne h
mutual
theorem Rep.but {H' : Hp} (e : But p H H') : ∀ {v : V} {t : T}, Rep K mg (p :: ψ) φ H v t → Rep K mg (p :: ψ) φ H' v t
  | _, _, .non => .non
  | _, _, .bl b => .bl b
  | _, _, .int i => .int i
  | _, _, .str x => .str x
  | _, _, .tup (a := a) h r => .tup (by
      rcases h with ⟨h, n, n2⟩ | h
      · have ne : a ≠ p := fun z => n2 (by rw [z]; exact List.mem_cons_self)
        refine .inl ⟨?_, n, n2⟩
        rcases h with h | ⟨o, h⟩
        · exact .inl ((e a ne).trans h)
        · exact .inr ⟨o, (e a ne).trans h⟩
      · exact .inr h) (Reps.but e r)
  | _, _, .scr (a := a) h r => .scr (by
      rcases h with ⟨h, n, n2⟩ | h
      · have ne : a ≠ p := fun z => n2 (by rw [z]; exact List.mem_cons_self)
        refine .inl ⟨?_, n, n2⟩
        rcases h with h | ⟨o, h⟩
        · exact .inl ((e a ne).trans h)
        · exact .inr ⟨o, (e a ne).trans h⟩
      · exact .inr h) (Reps.but e r)
  | _, _, .vl (a := a) h n r => .vl ((e a fun z => n.2 (by rw [z]; exact List.mem_cons_self)).trans h) n (Reps.but e r)
  | _, _, .vd0 (a := a) h n => .vd0 ((e a fun z => n.2 (by rw [z]; exact List.mem_cons_self)).trans h) n
  | _, _, .vd (a := a) h z n r q => .vd ((e a fun z => n.2 (by rw [z]; exact List.mem_cons_self)).trans h) z n (Reps.but e r) (Reps.but e q)
  | _, _, .loc h => .loc h
  | _, _, .ty n => .ty n
  | _, _, .gl h => .gl h
theorem Reps.but {H' : Hp} (e : But p H H') : ∀ {vs : List V} {ts : List T}, Reps K mg (p :: ψ) φ H vs ts → Reps K mg (p :: ψ) φ H' vs ts
  | _, _, .nil => .nil
  | _, _, .cons h r => .cons (Rep.but e h) (Reps.but e r)
end
mutual
theorem Rep.seen : ∀ {v : V} {t : T}, Rep K mg (p :: ψ) φ H v t → Rep K mg ψ φ H v t
  | _, _, .non => .non
  | _, _, .bl b => .bl b
  | _, _, .int i => .int i
  | _, _, .str x => .str x
  | _, _, .tup h r => .tup (h.imp (fun ⟨a, b, c⟩ => ⟨a, b, fun z => c (List.mem_cons_of_mem _ z)⟩) id) (Reps.seen r)
  | _, _, .scr h r => .scr (h.imp (fun ⟨a, b, c⟩ => ⟨a, b, fun z => c (List.mem_cons_of_mem _ z)⟩) id) (Reps.seen r)
  | _, _, .vl h n r => .vl h ⟨n.1, fun z => n.2 (List.mem_cons_of_mem _ z)⟩ (Reps.seen r)
  | _, _, .vd0 h n => .vd0 h ⟨n.1, fun z => n.2 (List.mem_cons_of_mem _ z)⟩
  | _, _, .vd h z n r q => .vd h z ⟨n.1, fun z => n.2 (List.mem_cons_of_mem _ z)⟩ (Reps.seen r) (Reps.seen q)
  | _, _, .loc h => .loc h
  | _, _, .ty n => .ty n
  | _, _, .gl h => .gl h
theorem Reps.seen : ∀ {vs : List V} {ts : List T}, Reps K mg (p :: ψ) φ H vs ts → Reps K mg ψ φ H vs ts
  | _, _, .nil => .nil
  | _, _, .cons h r => .cons (Rep.seen h) (Reps.seen r)
end
theorem nin_cons {a : Addr} {o : HO} (hp : H p = none) (h : H a = some o) (n : a ∉ ψ) : a ∉ p :: ψ := fun z => (List.mem_cons.mp z).elim (fun e => by rw [e, hp] at h; cases h) n
mutual
/-- p was not there -/
theorem Rep.hide (hp : H p = none) : ∀ {v : V} {t : T}, Rep K mg ψ φ H v t → Rep K mg (p :: ψ) φ H v t
  | _, _, .non => .non
  | _, _, .bl b => .bl b
  | _, _, .int i => .int i
  | _, _, .str x => .str x
  | _, _, .tup h r => .tup (by
      rcases h with ⟨h | ⟨o, h⟩, n, n2⟩ | h
      · exact .inl ⟨.inl h, n, nin_cons hp h n2⟩
      · exact .inl ⟨.inr ⟨o, h⟩, n, nin_cons hp h n2⟩
      · exact .inr h) (Reps.hide hp r)
  | _, _, .scr h r => .scr (by
      rcases h with ⟨h | ⟨o, h⟩, n, n2⟩ | h
      · exact .inl ⟨.inl h, n, nin_cons hp h n2⟩
      · exact .inl ⟨.inr ⟨o, h⟩, n, nin_cons hp h n2⟩
      · exact .inr h) (Reps.hide hp r)
  | _, _, .vl h n r => .vl h ⟨n.1, nin_cons hp h n.2⟩ (Reps.hide hp r)
  | _, _, .vd0 h n => .vd0 h ⟨n.1, nin_cons hp h n.2⟩
  | _, _, .vd h z n r q => .vd h z ⟨n.1, nin_cons hp h n.2⟩ (Reps.hide hp r) (Reps.hide hp q)
  | _, _, .loc h => .loc h
  | _, _, .ty n => .ty n
  | _, _, .gl h => .gl h
theorem Reps.hide (hp : H p = none) : ∀ {vs : List V} {ts : List T}, Reps K mg ψ φ H vs ts → Reps K mg (p :: ψ) φ H vs ts
  | _, _, .nil => .nil
  | _, _, .cons h r => .cons (Rep.hide hp h) (Reps.hide hp r)
end
theorem RepO.map {ψ' φ' : List Addr} {H' : Hp} (f : ∀ {vs : List V} {ts : List T}, Reps K mg ψ φ H vs ts → Reps K mg ψ' φ' H' vs ts) {ho : HO} {o : Ob} (h : RepO K mg ψ φ H ho o) : RepO K mg ψ' φ' H' ho o := by
  cases h with
  | lst r => exact .lst (f r)
  | dct r q => exact .dct (f r) (f q)
  | ins c n r => exact .ins c n (f r)
theorem RelS.hide {S : Sto} {o : HO} (r : RelS K mg ψ φ S H) (hp : H p = none) : RelS K mg (p :: ψ) φ S (L2.upd H p o) := by
  refine ⟨r.len, r.nd, fun b hb => ?_, r.sys.imp fun _ hs => by rw [upd_ne (ne_of_none hs hp)]; exact hs, fun i b u hb hu => ?_⟩
  · rcases List.mem_cons.mp hb with rfl | hb
    · exact ⟨r.nin hp, _, upd_same⟩
    · obtain ⟨n, o', ho⟩ := r.hid b hb
      exact ⟨n, o', by rw [upd_ne (ne_of_none ho hp)]; exact ho⟩
  · obtain ⟨ho, h1, h2⟩ := r.obj i b u hb hu
    exact ⟨ho, by rw [upd_ne (ne_of_none h1 hp)]; exact h1, h2.map fun q => (q.hide hp).but But.upd⟩
theorem RelE.hide {ρ : Env} {σ : L2.St} {o : HO} (r : RelE K mg ψ φ H ρ σ) (hp : H p = none) : RelE K mg (p :: ψ) φ (L2.upd H p o) ρ σ := ⟨r.len, fun i t q => let ⟨v, a, b⟩ := r.get i t q; ⟨v, a, (b.hide hp).but But.upd⟩⟩
theorem RelS.chg {S : Sto} {o : HO} (r : RelS K mg (p :: ψ) φ S H) (hl : ∀ o f, H p ≠ some (.frz o (.ext f))) : RelS K mg (p :: ψ) φ S (L2.upd H p o) := by
  have hp := r.hid p List.mem_cons_self
  have hs : sysModules ≠ p := fun z => let ⟨_, hs⟩ := r.sys; hl _ _ (by rw [← z]; exact hs)
  refine ⟨r.len, r.nd, fun b hb => ?_, ?_, fun i b u hb hu => ?_⟩
  · obtain ⟨n, o', ho⟩ := r.hid b hb
    by_cases e : b = p
    · exact ⟨n, o, by rw [e]; exact upd_same⟩
    · exact ⟨n, o', by rw [upd_ne e]; exact ho⟩
  · rw [upd_ne hs]; exact r.sys
  · obtain ⟨ho, h1, h2⟩ := r.obj i b u hb hu
    have ne : b ≠ p := fun z => hp.1 (by rw [← z]; exact List.mem_of_getElem? hb)
    exact ⟨ho, by rw [upd_ne ne]; exact h1, h2.map fun q => q.but But.upd⟩
theorem RelE.chg {ρ : Env} {σ : L2.St} {o : HO} (r : RelE K mg (p :: ψ) φ H ρ σ) : RelE K mg (p :: ψ) φ (L2.upd H p o) ρ σ := ⟨r.len, fun i t q => let ⟨v, a, b⟩ := r.get i t q; ⟨v, a, b.but But.upd⟩⟩
theorem RelS.gone {S : Sto} (r : RelS K mg (p :: ψ) φ S H) (np : p ∉ ψ) (hl : ∀ o f, H p ≠ some (.frz o (.ext f))) : RelS K mg ψ φ S (del H p) := by
  have hp := r.hid p List.mem_cons_self
  have hs : sysModules ≠ p := fun z => let ⟨_, hs⟩ := r.sys; hl _ _ (by rw [← z]; exact hs)
  refine ⟨r.len, r.nd, fun b hb => ?_, by rw [del_ne hs]; exact r.sys, fun i b u hb hu => ?_⟩
  · obtain ⟨n, o', ho⟩ := r.hid b (List.mem_cons_of_mem _ hb)
    have ne : b ≠ p := fun z => np (by rw [← z]; exact hb)
    exact ⟨n, o', by rw [del_ne ne]; exact ho⟩
  · obtain ⟨ho, h1, h2⟩ := r.obj i b u hb hu
    have ne : b ≠ p := fun z => hp.1 (by rw [← z]; exact List.mem_of_getElem? hb)
    exact ⟨ho, by rw [del_ne ne]; exact h1, h2.map fun q => (q.but But.del).seen⟩
end

/-! ### places wiped -/
theorem wipe_eq (σ : L2.St) : ∀ vs : List Nat, L2.wipe σ vs = wipe σ vs
  | [] => rfl
  | v :: vs => by show (L2.wipe σ vs).set v none = (wipe σ vs).set v none; rw [wipe_eq σ vs]
theorem wipe_len {α : Type} (σ : List (Option α)) : ∀ vs : List Nat, (wipe σ vs).length = σ.length
  | [] => rfl
  | v :: vs => by show ((wipe σ vs).set v none).length = _; rw [List.length_set]; exact wipe_len σ vs
theorem wipe_get {α : Type} (σ : List (Option α)) (i : Nat) : ∀ vs : List Nat, (wipe σ vs)[i]? = if i ∈ vs then (σ[i]?).map (fun _ => none) else σ[i]?
  | [] => by simp [wipe]
  | v :: vs => by
    show ((wipe σ vs).set v none)[i]? = _
    by_cases e : v = i
    · subst e
      rw [if_pos List.mem_cons_self, List.getElem?_set]
      simp only [if_true, wipe_len]
      by_cases h : v < σ.length
      · rw [if_pos h, List.getElem?_eq_getElem h]; rfl
      · rw [if_neg h, List.getElem?_eq_none (by omega)]; rfl
    · rw [List.getElem?_set_ne e, wipe_get σ i vs]
      have : (i ∈ v :: vs) ↔ i ∈ vs := ⟨fun h => (List.mem_cons.mp h).resolve_left (fun z => e z.symm), List.mem_cons_of_mem _⟩
      by_cases h : i ∈ vs
      · rw [if_pos h, if_pos (this.mpr h)]
      · rw [if_neg h, if_neg (fun z => h (this.mp z))]
theorem wipe_set {α : Type} (σ : List (Option α)) (i : Nat) (x : Option α) (vs : List Nat) (h : i ∈ vs) : wipe (σ.set i x) vs = wipe σ vs := by
  apply List.ext_getElem?
  intro j
  rw [wipe_get, wipe_get]
  by_cases e : i = j
  · subst e
    rw [if_pos h, if_pos h, List.getElem?_set]
    simp only [if_true]
    by_cases hl : i < σ.length
    · rw [if_pos hl, List.getElem?_eq_getElem hl]; rfl
    · rw [if_neg hl, List.getElem?_eq_none (by omega)]
  · rw [List.getElem?_set_ne e]
theorem RelE.wipe {K : PySem.W.Frag} {mg : Str → Option Value} {ψ φ : List Addr} {H : Hp} {ρ : Env} {σ : L2.St} (r : RelE K mg ψ φ H ρ σ) (vs : List Nat) : RelE K mg ψ φ H (Px.wipe ρ vs) (L2.wipe σ vs) := by
  rw [wipe_eq]
  refine ⟨by rw [wipe_len, wipe_len]; exact r.len, fun i t h => ?_⟩
  rw [wipe_get] at h ⊢
  by_cases e : i ∈ vs
  · rw [if_pos e] at h
    cases q : ρ[i]? with
    | none => rw [q] at h; cases h
    | some o => rw [q] at h; cases h
  · rw [if_neg e] at h ⊢
    exact r.get i t h
theorem RelE.set {K : PySem.W.Frag} {mg : Str → Option Value} {ψ φ : List Addr} {H : Hp} {ρ : Env} {σ : L2.St} {v : V} {t : T} (r : RelE K mg ψ φ H ρ σ) (i : Nat) (q : Rep K mg ψ φ H v t) : RelE K mg ψ φ H (ρ.set i (some t)) (σ.set i (some v)) := by
  refine ⟨by rw [List.length_set, List.length_set]; exact r.len, fun j u h => ?_⟩
  by_cases e : i = j
  · subst e
    rw [List.getElem?_set] at h ⊢
    simp only [if_true] at h ⊢
    by_cases hl : i < ρ.length
    · rw [if_pos hl] at h; cases h
      rw [if_pos (by rw [r.len]; exact hl)]
      exact ⟨v, rfl, q⟩
    · rw [if_neg hl] at h; cases h
  · rw [List.getElem?_set_ne e] at h ⊢
    exact r.get j u h

/-! ### targets -/
section
variable {B : Base} {k : Nat} {N : List Str} {sc : Scp} {e : Expr} {es : List Expr} {pos : Pos}
def tgI (B : Base) (g : Tg) : TG := fun v σ H Q => ∃ ψ φ ρ S t ρ', RelS B.K B.mg ψ φ S H ∧ RelE B.K B.mg ψ φ H ρ σ ∧ Rep B.K B.mg ψ φ H v t ∧ tgt g t ρ S = some ρ' ∧
  ∀ σ', RelE B.K B.mg ψ φ H ρ' σ' → (∀ vs : List Nat, (∀ i ∈ g.ix, i ∈ vs) → L2.wipe σ' vs = L2.wipe σ vs) → Q σ' H
def IG (B : Base) (k : Nat) (N : List Str) (sc : Scp) (tg : Expr) (g : Tg) : Prop := ∀ X, Sit B k N sc X → PG X tg (tgI B g)
theorem PG.imp {X : Cx} {e : Expr} {t t' : TG} (h : PG X e t) (hi : ∀ v σ H Q, t' v σ H Q → t v σ H Q) : PG X e t' := ⟨fun pins s σ H v u Q I r q => h.run pins s σ H v u Q I r (hi _ _ _ _ q)⟩
theorem PG.or {X : Cx} {e : Expr} {t t' : TG} (h : PG X e t) (h' : PG X e t') : PG X e (fun v σ H Q => t v σ H Q ∨ t' v σ H Q) := ⟨fun pins s σ H v u Q I r q => q.elim (h.run pins s σ H v u Q I r) (h'.run pins s σ H v u Q I r)⟩
def mayStore (sc : Scp) (x : Str) : Bool := sc.names.lookup x == some .local || (sc.names.lookup x == some .cell && sc.own x)
theorem pg_of {X : Cx} {x : Str} {i : Nat} {pos : Pos} (s : Sit B k N sc X) (hN : N[i]? = some x) (hx : mayStore sc x = true) : PG X (.Name x pos) (gName i) := by
  unfold mayStore at hx
  rw [Bool.or_eq_true, Bool.and_eq_true, beq_iff_eq, beq_iff_eq] at hx
  rcases hx with h | ⟨h, h2⟩
  · exact pg_name (by rw [s.hN]; exact s.nd) (by rw [s.hN]; exact hN) (by rw [s.hsc]; exact .inl h) (by rw [s.hsc]; exact .inr h)
  · exact pg_name (by rw [s.hN]; exact s.nd) (by rw [s.hN]; exact hN) (by rw [s.hsc]; exact .inr h) (.inl (s.fn x h2))
theorem ig_nm {x : Str} {i : Nat} (hN : N[i]? = some x) (hx : mayStore sc x = true) : IG B k N sc (.Name x pos) (.nm i) := fun X s =>
  PG.imp (pg_of s hN hx) fun v σ H Q ⟨ψ, φ, ρ, S, t, ρ', hS, hE, hv, ht, q⟩ => by
    cases ht
    refine q _ (hE.set i hv) fun vs hvs => ?_
    rw [wipe_eq, wipe_eq]
    exact wipe_set _ _ _ _ (hvs i List.mem_cons_self)
/-- names, one after another -/
def IGs (N : List Str) (sc : Scp) : List Expr → List Nat → Prop
  | [], [] => True
  | .Name x _ :: es, i :: is => N[i]? = some x ∧ mayStore sc x = true ∧ IGs N sc es is
  | _, _ => False
theorem igs_len : ∀ {es : List Expr} {is : List Nat}, IGs N sc es is → ∀ env, (assignEach es env).length = is.length ∧ (assignEach es env).findIdx? (·.1) = none
  | [], [], _, _ => ⟨rfl, rfl⟩
  | .Name x p :: es, i :: is, h, env => by
    obtain ⟨h1, h2⟩ := igs_len h.2.2 env
    refine ⟨?_, ?_⟩
    · show (assignEach es env).length + 1 = _
      rw [h1]; rfl
    · show ((false, assign (.Name x p) env) :: assignEach es env).findIdx? (·.1) = none
      rw [List.findIdx?_cons, h2]; rfl
  | [], _ :: _, h, _ => h.elim
  | .Name _ _ :: _, [], h, _ => h.elim
theorem igs_run {X : Cx} (s : Sit B k N sc X) : ∀ {es : List Expr} {is : List Nat}, IGs N sc es is → ∃ tg : TGs, PGs X es tg ∧ ∀ φ ρ σ H vs ts ρ' (Q : L2.St → Hp → Prop), RelE B.K B.mg B.hid φ H ρ σ → B.reps φ H vs ts → asgs is ts ρ = some ρ' →
      (∀ σ', RelE B.K B.mg B.hid φ H ρ' σ' → (∀ ws : List Nat, (∀ i ∈ is, i ∈ ws) → L2.wipe σ' ws = L2.wipe σ ws) → Q σ' H) → tg vs σ H Q
  | [], [], _ => ⟨_, pgs_nil, fun φ ρ σ H vs ts ρ' Q hE hv ha q => by
      cases hv with
      | nil => cases ha; exact ⟨rfl, q σ hE fun _ _ => rfl⟩
      | cons h r => cases ha⟩
  | .Name x p :: es, i :: is, h => by
    obtain ⟨tg, h1, h2⟩ := igs_run s h.2.2
    refine ⟨_, pgs_cons (pg_of s h.1 h.2.1) h1, fun φ ρ σ H vs ts ρ' Q hE hv ha q => ?_⟩
    cases hv with
    | nil => cases ha
    | @cons v vs t ts hv1 hv2 =>
      refine ⟨v, vs, rfl, h2 φ _ _ H vs ts ρ' Q (hE.set i hv1) hv2 ha fun σ' r w => q σ' r fun ws hw => ?_⟩
      rw [w ws fun j hj => hw j (List.mem_cons_of_mem _ hj), wipe_eq, wipe_eq]
      exact wipe_set _ _ _ _ (hw i List.mem_cons_self)
  | [], _ :: _, h => h.elim
  | .Name _ _ :: _, [], h => h.elim
theorem asgs_len : ∀ {is : List Nat} {ts : List T} {ρ ρ' : Env}, asgs is ts ρ = some ρ' → ts.length = is.length
  | [], [], _, _, _ => rfl
  | _ :: is, _ :: ts, _, _, h => by
    have := asgs_len (is := is) (ts := ts) h
    simp [this]
  | [], _ :: _, _, _, h => by cases h
  | _ :: _, [], _, _, h => by cases h
theorem ig_tps {is : List Nat} {j : Nat} (h : IGs N sc es is) : IG B k N sc (.Tuple es j pos) (.tps is) := fun X s => by
  have key : ∀ ψ, ∃ tg : TG, PG X (.Tuple es j pos) tg ∧ ∀ v σ H Q, (∃ φ ρ S t ρ', RelS B.K B.mg ψ φ S H ∧ RelE B.K B.mg ψ φ H ρ σ ∧ Rep B.K B.mg ψ φ H v t ∧ tgt (.tps is) t ρ S = some ρ' ∧
      ∀ σ', RelE B.K B.mg ψ φ H ρ' σ' → (∀ vs : List Nat, (∀ i ∈ is, i ∈ vs) → L2.wipe σ' vs = L2.wipe σ vs) → Q σ' H) → tg v σ H Q := fun ψ => by
    obtain ⟨tg, h1, h2⟩ := igs_run (s.wi ψ) h
    obtain ⟨hl, hn⟩ := igs_len h X.env
    refine ⟨_, PG.or (pg_tup s.calm h1 hl hn) (pg_unl s.calm h1 hl hn), fun v σ H Q ⟨φ, ρ, S, t, ρ', hS, hE, hv, ht, q⟩ => ?_⟩
    have hS' : RelS (B.wi ψ).K (B.wi ψ).mg (B.wi ψ).hid φ S H := hS
    rw [s.hK]
    cases et : vw S t with
    | tup xs =>
      have ha : asgs is xs ρ = some ρ' := by
        have : (match vw S t with | .tup xs => asgs is xs ρ | .vl xs => asgs is xs ρ | _ => none) = some ρ' := ht
        rw [et] at this; exact this
      obtain ⟨a, vs, rfl, h3, h4⟩ := seen_tup (φ := φ) hv et
      exact .inl ⟨a, vs, rfl, h3, by rw [h4.length]; exact asgs_len ha, h2 φ ρ σ H vs xs ρ' Q hE h4 ha q⟩
    | vl xs =>
      have ha : asgs is xs ρ = some ρ' := by
        have : (match vw S t with | .tup xs => asgs is xs ρ | .vl xs => asgs is xs ρ | _ => none) = some ρ' := ht
        rw [et] at this; exact this
      obtain ⟨a, vs, rfl, h3, h4⟩ := seen_list hS hv et
      exact .inr ⟨a, vs, rfl, .of h3, by rw [h4.length]; exact asgs_len ha, h2 φ ρ σ H vs xs ρ' Q hE h4 ha q⟩
    | _ =>
      exfalso
      have : (match vw S t with | .tup xs => asgs is xs ρ | .vl xs => asgs is xs ρ | _ => none) = some ρ' := ht
      rw [et] at this; cases this
  refine ⟨fun pins s' σ H v u Q I r ⟨ψ, q⟩ => ?_⟩
  obtain ⟨tg, h1, h2⟩ := key ψ
  exact h1.run pins s' σ H v u Q I r (h2 v σ H Q q)
/-! ### x, *xs = a tuple -/
theorem star_items {prog : Program} {w : World} {A : Around} {E : Value → Shared → Prop} {s : Shared} {l : Addr} {items : Array Value} {Q : List Value → Shared → Prop} (hl : IsTup s.heap l items) (hh : A.handled = none) (hn : 1 ≤ items.size) (hz : items.size ≤ 16000000)
    (h : ∀ (h' : Heap) (tk : Nat), (∀ b o, s.heap.get? b = some o → h'.get? b = some o) → Q (items.toList.take 1 ++ [.ref h'.objs.size]) { s with heap := h'.push { cls := .type "list", data := .seq (items.toList.drop 1).toArray }, toks := tk }) :
    wpAny (model prog w) A (unpackItems (.ref l) 2 (some 1)) Q E s := by
  have hlt : l ≠ s.heap.objs.size := by obtain ⟨o, ho, _⟩ := hl; exact Nat.ne_of_lt (Heap.lt_size ho)
  unfold unpackItems
  refine wpAny_bind ?_
  unfold notIterableAtAll
  refine wpAny_bind (wpAny_specialOf hl.typeIs slot_tuple_iter.lookup ?_)
  refine wpAny_pure ?_
  simp only [Bool.false_eq_true, if_false]
  refine wpAny_bind (wpAny_holding (iter_tuple hl ?_))
  refine wpAny_bind (wpAny_holding (draw_tuple hlt 1 0 _ _ ⟨_, Heap.get?_push_size _ rfl, rfl, rfl⟩ (hl.push _) (by omega) fun h₁ hit₁ hs₁ => ?_))
  have hl₁ : IsTup h₁ l items := (hl.push _).extBut hs₁.extBut hlt
  rw [Nat.zero_add] at hit₁
  have hit₁' := hit₁
  obtain ⟨oi, hoi, _⟩ := hit₁'
  have hl₁' := hl₁
  obtain ⟨ol, hol, _⟩ := hl₁'
  rw [List.drop_zero]
  have hfl : (items.toList.take 1).length = 1 := by rw [List.length_take, Array.length_toList]; omega
  rw [if_neg (show ¬ ((items.toList.take 1).length < 1) by rw [hfl]; omega)]
  refine wpAny_bind (wpAny_holding (PySem.W.kun_collect (s := { s with heap := h₁ }) (T := "tuple_iterator") (.inr (.inr (.inr rfl))) (Walks.tuple (A := A.in1) hh s.heap.objs.size l hlt items) (fun j u st => st.1.typeIs) (k := 1) (by omega) ⟨hit₁, hl₁⟩ (Heap.lt_size hoi) (Heap.lt_size hol) (fun h₂ tk hk => ?_) (by rw [sizeLine_eq]; omega)))
  show wpAny _ _ (newList ((items.toList.drop 1).take ((items.toList.drop 1).length - 0)) >>= fun d => pure (items.toList.take 1 ++ [d] ++ (items.toList.drop 1).drop ((items.toList.drop 1).length - 0))) _ _ _
  rw [Nat.sub_zero, List.take_length, List.drop_length]
  refine wpAny_bind (wpAny_newList (wpAny_pure ?_) (by rw [List.length_drop, Array.length_toList, sizeLine_eq]; omega))
  rw [List.append_nil]
  exact h h₂ tk fun b o e => hk b o (Nat.ne_of_lt (Heap.lt_size e)) (hs₁.extBut b o (Nat.ne_of_lt (Heap.lt_size e)) (Heap.get?_push_of_some _ e))
def gStar (K : PySem.W.Frag) (i j : Nat) : TG := fun v σ H Q => ∃ a x xs, v = .ref a ∧ SqT K H a (x :: xs) ∧ xs.length ≤ 1000000 ∧ ∀ p, H p = none → Q ((σ.set i (some x)).set j (some (.ref p))) (L2.upd H p (.lst xs))
theorem pg_star {X : Cx} {x y : Str} {i j q : Nat} {px py ps : Pos} (s : Sit B k N sc X) (hi : N[i]? = some x) (hx : mayStore sc x = true) (hj : N[j]? = some y) (hy : mayStore sc y = true) :
    PG X (.Tuple [.Name x px, .Starred (.Name y py) ps] q pos) (gStar X.K i j) := by
  refine ⟨fun pins s' σ H v u Q I r hw => ?_⟩
  obtain ⟨a, t, xs, rfl, hq, hl, hw⟩ := hw
  cases r
  obtain ⟨its, rv, ht, hz⟩ := I.tuple hq
  cases rv with
  | @cons _ w _ ws r1 rr =>
    rw [assign_Tuple]
    refine wpAny_bind (wpAny_standAt ?_)
    unfold unpack
    show wpAny _ _ (holding [.ref a] (unpackItems (.ref a) 2 (some 1)) >>= _) _ _ _
    have hlen := rr.length
    refine wpAny_bind (wpAny_holding (star_items ht (I.ok.hd s.calm) (by simp) (by simp; omega) fun h' tk hk => ?_))
    have I1 : Inv X pins σ H { s' with heap := h', toks := tk } := I.kept (t' := tk) hk
    have hf : H h'.objs.size = none := I1.hok.fresh (Nat.le_refl _)
    have I2 : Inv X pins σ (L2.upd H h'.objs.size (.lst xs)) { s' with heap := h'.push { cls := .type "list", data := .seq ws.toArray }, toks := tk } := I1.laid (t' := tk) (o := .lst xs) (fun b u e => Heap.get?_push_of_some _ e) (Nat.le_refl _) ⟨by rw [sizeLine_eq]; omega, ws, 0, rr, Heap.get?_push_size _ rfl⟩
    have G := pgs_cons (pg_of (pos := px) s hi hx) (pgs_cons (pg_of (pos := py) s hj hy) pgs_nil)
    exact G.run pins _ σ _ [t, .ref h'.objs.size] [w, .ref h'.objs.size] Q I2 (.cons r1 (.cons rfl .nil)) ⟨t, _, rfl, _, _, rfl, rfl, hw _ hf⟩
end
end Px
end
section
set_option linter.all false
set_option maxRecDepth 100000
/-! Px10: what is walked; list comprehensions; dict displays. -/
namespace Px
open PySem PySem.Spec PyProof.Rows L2

section
variable {K : PySem.W.Frag} {mg : Str → Option Value} {ψ ψ' φ : List Addr} {H : Hp}
theorem nin_many {a : Addr} {o : HO} (hp : ∀ a ∈ ψ', a ∈ ψ ∨ H a = none) (h : H a = some o) (n : a ∉ ψ) : a ∉ ψ' := fun z => (hp a z).elim n fun e => by rw [h] at e; cases e
mutual
theorem Rep.hides (hp : ∀ a ∈ ψ', a ∈ ψ ∨ H a = none) : ∀ {v : V} {t : T}, Rep K mg ψ φ H v t → Rep K mg ψ' φ H v t
  | _, _, .non => .non
  | _, _, .bl b => .bl b
  | _, _, .int i => .int i
  | _, _, .str x => .str x
  | _, _, .tup h r => .tup (by
      rcases h with ⟨h | ⟨o, h⟩, n, n2⟩ | h
      · exact .inl ⟨.inl h, n, nin_many hp h n2⟩
      · exact .inl ⟨.inr ⟨o, h⟩, n, nin_many hp h n2⟩
      · exact .inr h) (Reps.hides hp r)
  | _, _, .scr h r => .scr (by
      rcases h with ⟨h | ⟨o, h⟩, n, n2⟩ | h
      · exact .inl ⟨.inl h, n, nin_many hp h n2⟩
      · exact .inl ⟨.inr ⟨o, h⟩, n, nin_many hp h n2⟩
      · exact .inr h) (Reps.hides hp r)
  | _, _, .vl h n r => .vl h ⟨n.1, nin_many hp h n.2⟩ (Reps.hides hp r)
  | _, _, .vd0 h n => .vd0 h ⟨n.1, nin_many hp h n.2⟩
  | _, _, .vd h z n r q => .vd h z ⟨n.1, nin_many hp h n.2⟩ (Reps.hides hp r) (Reps.hides hp q)
  | _, _, .loc h => .loc h
  | _, _, .ty n => .ty n
  | _, _, .gl h => .gl h
theorem Reps.hides (hp : ∀ a ∈ ψ', a ∈ ψ ∨ H a = none) : ∀ {vs : List V} {ts : List T}, Reps K mg ψ φ H vs ts → Reps K mg ψ' φ H vs ts
  | _, _, .nil => .nil
  | _, _, .cons h r => .cons (Rep.hides hp h) (Reps.hides hp r)
end
end

/-- later; what is hidden may have been written -/
structure ExtW (ψ : List Addr) (φ : List Addr) (H : Hp) (φ' : List Addr) (H' : Hp) : Prop where
  pre : φ <+: φ'
  keep : ∀ a o, H a = some o → a ∉ φ → a ∉ ψ → H' a = some o
  new : ∀ a, a ∈ φ' → a ∉ φ → a ∉ ψ → H a = none
theorem Ext.w {ψ φ φ' : List Addr} {H H' : Hp} (e : Ext φ H φ' H') : ExtW ψ φ H φ' H' := ⟨e.pre, fun a o h n _ => e.keep a o h n, fun a h n _ => e.new a h n⟩
theorem ExtW.out {ψ φ φ' : List Addr} {H H' : Hp} {a : Addr} {o : HO} (e : ExtW ψ φ H φ' H') (h : H a = some o) (n : a ∉ φ) (n2 : a ∉ ψ) : a ∉ φ' := fun z => by
  have := e.new a z n n2
  rw [h] at this
  cases this
section
variable {K : PySem.W.Frag} {mg : Str → Option Value} {ψ ψ' φ φ' : List Addr} {H H' : Hp}
mutual
theorem Rep.extW (hs : ∀ a ∈ ψ', a ∈ ψ) (e : ExtW ψ' φ H φ' H') : ∀ {v : V} {t : T}, Rep K mg ψ φ H v t → Rep K mg ψ φ' H' v t
  | _, _, .non => .non
  | _, _, .bl b => .bl b
  | _, _, .int i => .int i
  | _, _, .str x => .str x
  | _, _, .tup h r => .tup (by
      rcases h with ⟨h | ⟨o, h⟩, n, n2⟩ | h
      · exact .inl ⟨.inl (e.keep _ _ h n fun z => n2 (hs _ z)), e.out h n fun z => n2 (hs _ z), n2⟩
      · exact .inl ⟨.inr ⟨o, e.keep _ _ h n fun z => n2 (hs _ z)⟩, e.out h n fun z => n2 (hs _ z), n2⟩
      · exact .inr h) (Reps.extW hs e r)
  | _, _, .scr h r => .scr (by
      rcases h with ⟨h | ⟨o, h⟩, n, n2⟩ | h
      · exact .inl ⟨.inl (e.keep _ _ h n fun z => n2 (hs _ z)), e.out h n fun z => n2 (hs _ z), n2⟩
      · exact .inl ⟨.inr ⟨o, e.keep _ _ h n fun z => n2 (hs _ z)⟩, e.out h n fun z => n2 (hs _ z), n2⟩
      · exact .inr h) (Reps.extW hs e r)
  | _, _, .vl h n r => .vl (e.keep _ _ h n.1 fun z => n.2 (hs _ z)) ⟨e.out h n.1 fun z => n.2 (hs _ z), n.2⟩ (Reps.extW hs e r)
  | _, _, .vd0 h n => .vd0 (e.keep _ _ h n.1 fun z => n.2 (hs _ z)) ⟨e.out h n.1 fun z => n.2 (hs _ z), n.2⟩
  | _, _, .vd h z n r q => .vd (e.keep _ _ h n.1 fun z => n.2 (hs _ z)) z ⟨e.out h n.1 fun z => n.2 (hs _ z), n.2⟩ (Reps.extW hs e r) (Reps.extW hs e q)
  | _, _, .loc h => .loc (prefix_get e.pre h)
  | _, _, .ty n => .ty n
  | _, _, .gl h => .gl h
theorem Reps.extW (hs : ∀ a ∈ ψ', a ∈ ψ) (e : ExtW ψ' φ H φ' H') : ∀ {vs : List V} {ts : List T}, Reps K mg ψ φ H vs ts → Reps K mg ψ φ' H' vs ts
  | _, _, .nil => .nil
  | _, _, .cons h r => .cons (Rep.extW hs e h) (Reps.extW hs e r)
end
mutual
theorem Rep.fewer (hs : ∀ a ∈ ψ', a ∈ ψ) : ∀ {v : V} {t : T}, Rep K mg ψ φ H v t → Rep K mg ψ' φ H v t
  | _, _, .non => .non
  | _, _, .bl b => .bl b
  | _, _, .int i => .int i
  | _, _, .str x => .str x
  | _, _, .tup h r => .tup (h.imp (fun ⟨a, b, c⟩ => ⟨a, b, fun z => c (hs _ z)⟩) id) (Reps.fewer hs r)
  | _, _, .scr h r => .scr (h.imp (fun ⟨a, b, c⟩ => ⟨a, b, fun z => c (hs _ z)⟩) id) (Reps.fewer hs r)
  | _, _, .vl h n r => .vl h ⟨n.1, fun z => n.2 (hs _ z)⟩ (Reps.fewer hs r)
  | _, _, .vd0 h n => .vd0 h ⟨n.1, fun z => n.2 (hs _ z)⟩
  | _, _, .vd h z n r q => .vd h z ⟨n.1, fun z => n.2 (hs _ z)⟩ (Reps.fewer hs r) (Reps.fewer hs q)
  | _, _, .loc h => .loc h
  | _, _, .ty n => .ty n
  | _, _, .gl h => .gl h
theorem Reps.fewer (hs : ∀ a ∈ ψ', a ∈ ψ) : ∀ {vs : List V} {ts : List T}, Reps K mg ψ φ H vs ts → Reps K mg ψ' φ H vs ts
  | _, _, .nil => .nil
  | _, _, .cons h r => .cons (Rep.fewer hs h) (Reps.fewer hs r)
end
theorem ExtW.trans {φ2 : List Addr} {H2 : Hp} (e : ExtW ψ φ H φ' H') (e' : ExtW ψ φ' H' φ2 H2) : ExtW ψ φ H φ2 H2 := by
  refine ⟨e.pre.trans e'.pre, fun a o h n n2 => e'.keep a o (e.keep a o h n n2) (e.out h n n2) n2, fun a h n n2 => ?_⟩
  by_cases z : a ∈ φ'
  · exact e.new a z n n2
  · cases q : H a with
    | none => rfl
    | some o =>
      have := e'.new a h z n2
      rw [e.keep a o q n n2] at this; cases this
theorem ExtW.wr {p : Addr} {o : HO} (e : ExtW ψ φ H φ' H') (hp : p ∈ ψ) : ExtW ψ φ H φ' (L2.upd H' p o) := ⟨e.pre, fun a u h n n2 => by
  rw [upd_ne fun z => n2 (by rw [z]; exact hp)]
  exact e.keep a u h n n2, e.new⟩
theorem RelE.extW {ρ : Env} {σ : L2.St} (hs : ∀ a ∈ ψ', a ∈ ψ) (e : ExtW ψ' φ H φ' H') (r : RelE K mg ψ φ H ρ σ) : RelE K mg ψ φ' H' ρ σ := ⟨r.len, fun i t q => let ⟨v, a, b⟩ := r.get i t q; ⟨v, a, b.extW hs e⟩⟩
/-- from the start of a walk to any later turn -/
theorem Reps.walk {hid : List Addr} (hψ : ∀ a ∈ ψ, a ∈ hid ∨ H a = none) (e : ExtW hid φ H φ' H') {vs : List V} {ts : List T} (r : Reps K mg hid φ H vs ts) : Reps K mg ψ φ' H' vs ts :=
  ((r.hides (ψ' := ψ ++ hid) fun a ha => (List.mem_append.mp ha).elim (hψ a) .inl).extW (fun _ ha => List.mem_append_right _ ha) e).fewer fun _ ha => List.mem_append_left _ ha
end
/-- the iterator J gives the items, from (φ1, S1, H1) on -/
def Walks (B : Base) (φ1 : List Addr) (S1 : Sto) (H1 : Hp) (J : L2.It) (xs : List T) (l : Option Nat) : Prop := ∀ ψ φ S H, (∀ a ∈ ψ, a ∈ B.hid ∨ H1 a = none) → ExtW B.hid φ1 H1 φ H → RelS B.K B.mg ψ φ S H → stays l S1 S → ∀ i : Nat,
  (∀ t, xs[i]? = some t → J.go i H ∧ ∀ x H', J.yld i H x H' → Ext φ H φ H' ∧ RelS B.K B.mg ψ φ S H' ∧ Rep B.K B.mg ψ φ H' x t) ∧ (xs.length ≤ i → J.stop i H)
def PostW (B : Base) (φ : List Addr) (H : Hp) (r : R (List T × Option Nat)) (Q : L2.It → Hp → Prop) : Prop := match r with
  | .ok xl S1 => ∀ φ1 H1 J, Ext φ H φ1 H1 → RelS B.K B.mg B.hid φ1 S1 H1 → Walks B φ1 S1 H1 J xl.1 xl.2 → Q J H1
  | _ => False
def tW (B : Base) (m : Env → Sto → R (List T × Option Nat)) : TI := fun σ H Q => ∃ φ ρ S, RelS B.K B.mg B.hid φ S H ∧ RelE B.K B.mg B.hid φ H ρ σ ∧ PostW B φ H (m ρ S) Q
def II (B : Base) (k : Nat) (N : List Str) (sc : Scp) (tg iter : Expr) (m : Env → Sto → R (List T × Option Nat)) : Prop := ∀ X, Sit B k N sc X → PI X tg iter (tW B m)
theorem PI.imp {X : Cx} {tg e : Expr} {t t' : TI} (h : PI X tg e t) (hi : ∀ σ H Q, t' σ H Q → t σ H Q) : PI X tg e t' := ⟨fun pins s σ H R I q => h.run pins s σ H R I (hi _ _ _ q)⟩
theorem PI.or {X : Cx} {tg e : Expr} {t t' : TI} (h : PI X tg e t) (h' : PI X tg e t') : PI X tg e (fun σ H Q => t σ H Q ∨ t' σ H Q) := ⟨fun pins s σ H R I q => q.elim (h.run pins s σ H R I) (h'.run pins s σ H R I)⟩

section
variable {B : Base} {k : Nat} {N : List Str} {sc : Scp} {e : Expr} {es : List Expr} {pos : Pos} {tg : Expr}

theorem walks_list {φ1 : List Addr} {S1 : Sto} {H1 : Hp} {v : V} {t : T} {xs : List T} (hS : RelS B.K B.mg B.hid φ1 S1 H1) (hv : B.rep φ1 H1 v t) (e : vw S1 t = .vl xs) : ∃ a vs, v = .ref a ∧ H1 a = some (.lst vs) ∧ Walks B φ1 S1 H1 (Itl B.K a) xs (locOf t) := by
  rcases vw_cases S1 t with q | ⟨l, rfl, ys, hl, q⟩
  · rw [q] at e
    subst e
    cases hv with
    | @vl a vs _ h n r =>
      refine ⟨a, vs, rfl, h, fun ψ φ S H hψ x r' _ i => ⟨fun t ht => ?_, fun hi => ?_⟩⟩
      · have hH := x.keep _ _ h n.1 n.2
        obtain ⟨w, hw, rw2⟩ := (r.walk hψ x).get ht
        refine ⟨⟨vs, w, .of hH, hw⟩, fun z H' hy => ?_⟩
        obtain ⟨rfl, hz⟩ := hy
        have e1 := Option.some.inj ((hz vs (.of hH)).symm.trans hw)
        subst e1
        exact ⟨Ext.refl, r', rw2⟩
      · exact ⟨vs, .of (x.keep _ _ h n.1 n.2), by rw [r.length]; exact hi⟩
  · rw [q] at e
    cases e
    cases hv with
    | @loc a _ h =>
      obtain ⟨ho, h1, h2⟩ := hS.obj l a _ h hl
      cases h2 with
      | @lst vs _ r =>
        refine ⟨a, vs, rfl, h1, fun ψ φ S H hψ x r' st i => ?_⟩
        have hl2 : S[l]? = some (.lst xs) := (show S[l]? = S1[l]? from st).trans hl
        obtain ⟨ho2, g1, g2⟩ := r'.obj l a _ (prefix_get x.pre h) hl2
        cases g2 with
        | @lst ws _ r2 =>
          refine ⟨fun t ht => ?_, fun hi => ⟨ws, .of g1, by rw [r2.length]; exact hi⟩⟩
          obtain ⟨w, hw, rw2⟩ := r2.get ht
          refine ⟨⟨ws, w, .of g1, hw⟩, fun z H' hy => ?_⟩
          obtain ⟨rfl, hz⟩ := hy
          have e1 := Option.some.inj ((hz ws (.of g1)).symm.trans hw)
          subst e1
          exact ⟨Ext.refl, r', rw2⟩
theorem walks_tup {φ1 : List Addr} {S1 : Sto} {H1 : Hp} {v : V} {t : T} {xs : List T} (hv : B.rep φ1 H1 v t) (e : vw S1 t = .tup xs) : ∃ a vs, v = .ref a ∧ SqT B.K H1 a vs ∧ Walks B φ1 S1 H1 (Itt B.K a) xs (locOf t) := by
  have e' := vw_tup e
  subst e'
  cases hv with
  | @tup a vs _ h r =>
    refine ⟨a, vs, rfl, h.sq, fun ψ φ S H hψ x r' _ i => ?_⟩
    have hH : SqT B.K H a vs := by
      rcases h with ⟨h | ⟨o, h⟩, n, n2⟩ | h
      · exact (show TupAt B.K [] [] H a vs from .inl ⟨.inl (x.keep _ _ h n n2), by simp, by simp⟩).sq
      · exact (show TupAt B.K [] [] H a vs from .inl ⟨.inr ⟨o, x.keep _ _ h n n2⟩, by simp, by simp⟩).sq
      · exact (show TupAt B.K [] [] H a vs from .inr h).sq
    refine ⟨fun t ht => ?_, fun hi => ⟨vs, hH, by rw [r.length]; exact hi⟩⟩
    obtain ⟨w, hw, rw2⟩ := (r.walk hψ x).get ht
    refine ⟨⟨vs, w, hH, hw⟩, fun z H' hy => ?_⟩
    obtain ⟨rfl, hz⟩ := hy
    have e1 := Option.some.inj ((hz vs hH).symm.trans hw)
    subst e1
    exact ⟨Ext.refl, r', rw2⟩
theorem vw_str {S : Sto} {t : T} {x : Str} (e : vw S t = .str x) : t = .str x := by
  rcases vw_cases S t with q | ⟨l, rfl, xs, hl, q⟩
  · rw [q] at e; exact e
  · rw [q] at e; cases e
theorem walks_str {φ1 : List Addr} {S1 : Sto} {H1 : Hp} {x : Str} : Walks B φ1 S1 H1 (Its x) (x.cps.toList.map fun c => .str ⟨#[c]⟩) none := fun ψ φ S H hψ x' r' _ i => by
  refine ⟨fun t ht => ?_, fun hi => ?_⟩
  · rw [List.getElem?_map, Array.getElem?_toList] at ht
    obtain ⟨c, hc, rfl⟩ := Option.map_eq_some_iff.mp ht
    refine ⟨(Array.getElem?_eq_some_iff.mp hc).1, fun z H' hy => ?_⟩
    obtain ⟨rfl, c', hc', rfl⟩ := hy
    rw [hc] at hc'
    cases hc'
    exact ⟨Ext.refl, r', .str _⟩
  · rw [List.length_map, Array.length_toList] at hi
    exact hi
theorem ii_plain {m : Env → Sto → R T} (h : IE B k N sc e m) : II B k N sc tg e (fun ρ S => (m ρ S).bind fun x S => R.opt ((itemsT (vw S x)).map fun xs => (xs, locOf x)) S) := fun X s => by
  refine PI.imp (PI.or (pi_list (h X s)) (PI.or (pi_tup (h X s)) (pi_str (h X s)))) fun σ H Q ⟨φ, ρ, S, hS, hE, hp⟩ => ?_
  cases hm : m ρ S with
  | bad => simp only [hm, R.bind] at hp; exact hp.elim
  | exc => simp only [hm, R.bind] at hp; exact hp.elim
  | ok x S1 =>
    simp only [hm, R.bind_ok] at hp
    have base : ∀ {Q1 : VK}, (∀ v φ1 H1, Ext φ H φ1 H1 → RelS B.K B.mg B.hid φ1 S1 H1 → B.rep φ1 H1 v x → Q1 v H1) → tI B m σ H Q1 := fun f => ⟨φ, ρ, S, hS, hE, by rw [hm]; exact fun φ1 H1 v a b c => f v φ1 H1 a b c⟩
    rw [s.hK]
    cases ea : vw S1 x with
    | vl xs =>
      rw [ea] at hp
      refine .inl (base fun v φ1 H1 e1 hS1 rv => ?_)
      obtain ⟨a, vs, rfl, h1, h2⟩ := walks_list hS1 rv ea
      exact ⟨a, rfl, ⟨vs, .of h1⟩, hp φ1 H1 _ e1 hS1 h2⟩
    | tup xs =>
      rw [ea] at hp
      refine .inr (.inl (base fun v φ1 H1 e1 hS1 rv => ?_))
      obtain ⟨a, vs, rfl, h1, h2⟩ := walks_tup (S1 := S1) rv ea
      exact ⟨a, rfl, ⟨vs, h1⟩, hp φ1 H1 _ e1 hS1 h2⟩
    | str y =>
      rw [ea] at hp
      refine .inr (.inr (base fun v φ1 H1 e1 hS1 rv => ?_))
      have ex := vw_str ea
      subst ex
      exact ⟨y, seen_str rv ea, hp φ1 H1 _ e1 hS1 walks_str⟩
    | _ => rw [ea] at hp; exact hp.elim
theorem walks_rng {φ1 : List Addr} {S1 : Sto} {H1 : Hp} {lo hi : Int} : Walks B φ1 S1 H1 (Itr lo (hi - lo).toNat) (rng lo hi) none := fun ψ φ S H hψ x r' _ i => by
  unfold rng
  refine ⟨fun t ht => ?_, fun hi => ?_⟩
  · rw [List.getElem?_map] at ht
    obtain ⟨j, hj, rfl⟩ := Option.map_eq_some_iff.mp ht
    obtain ⟨h1, h2⟩ := List.getElem?_eq_some_iff.mp hj
    rw [List.length_range] at h1
    rw [List.getElem_range] at h2
    subst h2
    refine ⟨h1, fun z H' hy => ?_⟩
    obtain ⟨rfl, rfl⟩ := hy
    exact ⟨Ext.refl, r', .int _⟩
  · rw [List.length_map, List.length_range] at hi
    exact hi
theorem inv_rng1 {t : T} {ys : List T} (h : rangeT [t] = some ys) : ∃ n, t = .int n ∧ -(2 ^ 62) ≤ n ∧ n < 2 ^ 62 ∧ ys = rng 0 n := by
  cases t with
  | int n =>
    obtain ⟨h1, rfl⟩ := gd_some (show gd (decide (-4611686018427387904 ≤ n) && decide (n < 4611686018427387904)) (rng 0 n) = some ys from h)
    simp only [Bool.and_eq_true, decide_eq_true_eq] at h1
    exact ⟨n, rfl, by omega, by omega, rfl⟩
  | _ => cases h
theorem inv_rng2 {t u : T} {ys : List T} (h : rangeT [t, u] = some ys) : ∃ a b, t = .int a ∧ u = .int b ∧ (-(2 ^ 62) ≤ a ∧ a < 2 ^ 62 ∧ -(2 ^ 62) ≤ b ∧ b < 2 ^ 62) ∧ ys = rng a b := by
  cases t with
  | int a =>
    cases u with
    | int b =>
      obtain ⟨h1, rfl⟩ := gd_some (show gd (decide (-4611686018427387904 ≤ a) && decide (a < 4611686018427387904) && decide (-4611686018427387904 ≤ b) && decide (b < 4611686018427387904)) (rng a b) = some ys from h)
      simp only [Bool.and_eq_true, decide_eq_true_eq] at h1
      exact ⟨a, b, rfl, rfl, by omega, rfl⟩
    | _ => cases h
  | _ => cases u <;> cases h
theorem PostW.opt {φ : List Addr} {H : Hp} {S1 : Sto} {o : Option (List T)} {Q : L2.It → Hp → Prop} (h : PostW B φ H (R.opt (o.map fun ys => (ys, (none : Option Nat))) S1) Q) : ∃ ys, o = some ys ∧ PostW B φ H (.ok (ys, none) S1) Q := by
  cases o with
  | none => exact h.elim
  | some ys => exact ⟨ys, rfl, h⟩
theorem ii_range1 {a : Expr} {p : Pos} {m : Env → Sto → R T} (hg : sc.names.lookup ("range" : Str) = some .globalImplicit) (hm : B.mg "range" = none) (hs : isStar a = false) (h : IE B k N sc a m) :
    II B k N sc tg (.Call (.Name "range" p) [a] [] pos) (fun ρ S => (m ρ S).bind fun x S => R.opt ((rangeT [x]).map fun ys => (ys, none)) S) := fun X s => by
  refine PI.imp (pi_range1 (gl_of s hg) (by rw [s.hmg]; exact hm) (pa_cons (h X s) pa_nil (star_head hs)) (star_head hs)) fun σ H Q ⟨φ, ρ, S, hS, hE, hp⟩ => ?_
  cases hx : m ρ S with
  | bad => simp only [hx, R.bind] at hp; exact hp.elim
  | exc => simp only [hx, R.bind] at hp; exact hp.elim
  | ok x S1 =>
    simp only [hx, R.bind_ok] at hp
    obtain ⟨ys, hy, hp⟩ := hp.opt
    obtain ⟨n, rfl, h1, h2, rfl⟩ := inv_rng1 hy
    refine ⟨φ, ρ, S, hS, hE, ?_⟩
    rw [hx]
    intro φ1 H1 v e1 hS1 rv
    cases rv
    refine ⟨n, rfl, h1, h2, hp φ1 H1 _ e1 hS1 ?_⟩
    have := walks_rng (B := B) (φ1 := φ1) (S1 := S1) (H1 := H1) (lo := 0) (hi := n)
    rw [Int.sub_zero] at this
    exact this
theorem ii_range2 {a b : Expr} {p : Pos} {ma mb : Env → Sto → R T} (hg : sc.names.lookup ("range" : Str) = some .globalImplicit) (hm : B.mg "range" = none) (hs : isStar a = false) (hs2 : isStar b = false) (ha : IE B k N sc a ma) (hb : IE B k N sc b mb) :
    II B k N sc tg (.Call (.Name "range" p) [a, b] [] pos) (fun ρ S => (ma ρ S).bind fun x S => (mb ρ S).bind fun y S => R.opt ((rangeT [x, y]).map fun ys => (ys, none)) S) := fun X s => by
  have e2 : starEach [a, b] X.env = [(false, eval a X.env), (false, eval b X.env)] := (star_head hs).trans (by rw [star_head hs2]; rfl)
  refine PI.imp (pi_range2 (gl_of s hg) (by rw [s.hmg]; exact hm) (pa_cons (ha X s) (pa_cons (hb X s) pa_nil (star_head hs2)) (star_head hs)) e2 (star_head hs2)) fun σ H Q ⟨φ, ρ, S, hS, hE, hp⟩ => ?_
  cases hx : ma ρ S with
  | bad => simp only [hx, R.bind] at hp; exact hp.elim
  | exc => simp only [hx, R.bind] at hp; exact hp.elim
  | ok x S1 =>
    simp only [hx, R.bind_ok] at hp
    refine ⟨φ, ρ, S, hS, hE, ?_⟩
    rw [hx]
    intro φ1 H1 v e1 hS1 rv
    refine ⟨φ1, ρ, S1, hS1, hE.ext e1, ?_⟩
    cases hy : mb ρ S1 with
    | bad => simp only [hy, R.bind] at hp; exact hp.elim
    | exc => simp only [hy, R.bind] at hp; exact hp.elim
    | ok y S2 =>
      simp only [hy, R.bind_ok] at hp
      obtain ⟨ys, hz, hp⟩ := hp.opt
      obtain ⟨i, j, rfl, rfl, h1, rfl⟩ := inv_rng2 hz
      intro φ2 H2 w e2 hS2 rw2
      cases rv
      cases rw2
      exact ⟨i, j, rfl, h1, hp φ2 H2 _ (e1.trans e2) hS2 walks_rng⟩

/-! ### list comprehensions -/
theorem compL_le {l : Option Nat} {S0 : Sto} {body : T → Sto → R (Option T)} : ∀ {xs acc : List T} {S : Sto} {ys : List T} {S' : Sto}, compL l S0 body xs acc S = .ok ys S' → acc.length ≤ ys.length ∧ ys.length ≤ lim
  | [], acc, S, ys, S', h => by
    unfold compL at h
    split at h
    · cases h; exact ⟨Nat.le_refl _, by assumption⟩
    · cases h
  | x :: xs, acc, S, ys, S', h => by
    unfold compL at h
    cases hb : body x S with
    | bad => rw [hb] at h; cases h
    | exc => rw [hb] at h; cases h
    | ok r S1 =>
      rw [hb, R.bind_ok] at h
      split at h
      · obtain ⟨h1, h2⟩ := compL_le h
        refine ⟨Nat.le_trans ?_ h1, h2⟩
        cases r with
        | none => exact Nat.le_refl _
        | some v => simp
      · cases h
/-- the readings, whatever is hidden -/
def tIx (B : Base) (m : Env → Sto → R T) : TE := fun σ H Q => ∃ ψ, tI (B.wi ψ) m σ H Q
def tTx (B : Base) (m : Env → Sto → R Bool) : TT := fun σ H Q => ∃ ψ, tT (B.wi ψ) m σ H Q
theorem ex_e {X : Cx} {e : Expr} {m : Env → Sto → R T} (h : ∀ ψ, PE X e (tI (B.wi ψ) m)) : PE X e (tIx B m) := ⟨fun pins s σ H Q I ⟨ψ, q⟩ => (h ψ).run pins s σ H Q I q⟩
theorem ex_t {X : Cx} {es : List Expr} {m : Env → Sto → R Bool} (h : ∀ ψ, PTs X es (tT (B.wi ψ) m)) : PTs X es (tTx B m) := ⟨fun pins s σ H Q I ⟨ψ, q⟩ => (h ψ).run pins s σ H Q I q⟩
/-- a clause's tests -/
def ITs (B : Base) (k : Nat) (N : List Str) (sc : Scp) (es : List Expr) (m : Env → Sto → R Bool) : Prop := ∀ X, Sit B k N sc X → PTs X es (tT B m)
theorem its_nil : ITs B k N sc [] (fun _ S => .ok true S) := fun X s => ⟨fun pins s' σ H Q I ⟨φ, ρ, S, hS, hE, hp⟩ => (pts_nil (X := X)).run pins s' σ H Q I (Post.ok (rep := same) hp hS rfl)⟩
theorem its_one {m : Env → Sto → R Bool} (h : IT B k N sc e m) : ITs B k N sc [e] m := fun X s => pts_one (h X s)
/-- a block's names and places -/
def Scp.blk (sc : Scp) (scope : Scope) : Scp := { relS scope sc.toScope with own := fun x => scope.names.lookup x == some .cell }
theorem Sit.blk {X : Cx} (s : Sit B k N sc X) (scope : Scope) (s' : Shared) (H : Hp) (C : Addr) (cl : List (Str × Addr)) (fp : List Addr) : Sit B k N (sc.blk scope) (X.blk s' H scope (compEnvC scope cl C X.env) fp) where
  hP := s.hP
  hw := s.hw
  hK := s.hK
  hmg := s.hmg
  hbase := s.hbase
  hN := s.hN
  nd := s.nd
  hsc := by
    show relabel scope X.env = relS scope sc.toScope
    rw [← s.hsc]; rfl
  fn := fun x hx => hx
  calm := s.calm
  room := s.room
  gs := s.gs
  xe := rfl
theorem comp_read {g : Tg} {vs : List Nat} {mi : Env → Sto → R (List T × Option Nat)} {mc : Env → Sto → R Bool} {me : Env → Sto → R T} (hix : ∀ i ∈ g.ix, i ∈ vs) (σ : L2.St) (H : Hp) (Q : VK) (h : tF B (fun ρ S => (mi ρ S).bind fun xl S => compL xl.2 S (fun x S1 => (R.opt (tgt g x (wipe ρ vs) S1) S1).bind fun ρ1 S1 =>
      (mc ρ1 S1).bind fun k S1 => if k then (me ρ1 S1).bind fun v S1 => .ok (some v) S1 else .ok none S1) xl.1 [] S) σ H Q) : tLc (tW B mi) (tgI B g) (tTx B mc) (tIx B me) vs σ H Q := by
  obtain ⟨φ, ρ, S, hS, hE, hp⟩ := h
  cases hx : mi ρ S with
  | bad => simp only [hx, R.bind] at hp; exact hp.elim
  | exc => simp only [hx, R.bind] at hp; exact hp.elim
  | ok xl S1 =>
    obtain ⟨xs, l⟩ := xl
    simp only [hx, R.bind_ok] at hp
    refine ⟨φ, ρ, S, hS, hE, ?_⟩
    rw [hx]
    intro φ1 H1 J e1 hS1 hJ D hD
    generalize hbd : (fun x S1 => (R.opt (tgt g x (wipe ρ vs) S1) S1).bind fun ρ1 S1 => (mc ρ1 S1).bind fun k S1 => if k then (me ρ1 S1).bind fun v S1 => R.ok (some v) S1 else R.ok none S1) = body at hp
    have hp1 := hp.later e1
    have hE1 : RelE B.K B.mg (D :: B.hid) φ1 (upd H1 D (.lst [])) ρ σ := (hE.ext e1).hide hD
    have hS2 : RelS B.K B.mg (D :: B.hid) φ1 S1 (upd H1 D (.lst [])) := hS1.hide hD
    have hψ : ∀ a ∈ D :: B.hid, a ∈ B.hid ∨ H1 a = none := fun a ha => (List.mem_cons.mp ha).elim (fun z => .inr (by rw [z]; exact hD)) .inl
    refine ⟨fun i m H' => ∃ φ' S' acc vacc, Ext φ1 H1 φ' H' ∧ RelS B.K B.mg (D :: B.hid) φ' S' H' ∧ RelE B.K B.mg (D :: B.hid) φ' H' ρ σ ∧ H' D = some (.lst vacc) ∧ Reps B.K B.mg (D :: B.hid) φ' H' vacc acc ∧ stays l S1 S' ∧ i ≤ xs.length ∧ m = xs.length - i ∧
      Post B B.reps φ1 H1 (compL l S1 body (xs.drop i) acc S') (fun vs H1 => ∀ p, H1 p = none → Q (.ref p) (upd H1 p (.lst vs))), ⟨xs.length, φ1, S1, [], [], Ext.upd hD, hS2, hE1, upd_same, .nil, by cases l <;> first | exact rfl | exact True.intro, Nat.zero_le _, rfl, hp1⟩, ?_⟩
    rintro i m H' ⟨φ', S', acc, vacc, x', r', re', hD', ra, st, hi, rfl, hq⟩
    have hwk := hJ (D :: B.hid) φ' S' H' hψ x'.w r' st i
    by_cases hlt : i < xs.length
    · right
      obtain ⟨hgo, hy⟩ := hwk.1 xs[i] (List.getElem?_eq_getElem hlt)
      refine ⟨hgo, fun H'' => ∃ φ'' S'' acc vacc, Ext φ1 H1 φ'' H'' ∧ RelS B.K B.mg (D :: B.hid) φ'' S'' H'' ∧ RelE B.K B.mg (D :: B.hid) φ'' H'' ρ σ ∧ H'' D = some (.lst vacc) ∧ Reps B.K B.mg (D :: B.hid) φ'' H'' vacc acc ∧ stays l S1 S'' ∧
        Post B B.reps φ1 H1 (compL l S1 body (xs.drop (i + 1)) acc S'') (fun vs H1 => ∀ p, H1 p = none → Q (.ref p) (upd H1 p (.lst vs))), ?_, ?_⟩
      · rintro H'' ⟨φ'', S'', acc, vacc, a1, a2, a3, a4, a5, a6, a7⟩
        exact ⟨xs.length - (i + 1), by omega, φ'', S'', acc, vacc, a1, a2, a3, a4, a5, a6, by omega, rfl, a7⟩
      · intro x H2 hyl
        obtain ⟨y1, y2, y3⟩ := hy x H2 hyl
        rw [List.drop_eq_getElem_cons hlt] at hq
        -- the turn
        have hDφ : D ∉ φ' := (r'.hid D List.mem_cons_self).1
        unfold compL at hq
        cases hb : body xs[i] S' with
        | bad => simp only [hb, R.bind] at hq; exact hq.elim
        | exc => simp only [hb, R.bind] at hq; exact hq.elim
        | ok o S3 =>
          simp only [hb, R.bind_ok] at hq
          rw [← hbd] at hb
          simp only at hb
          cases ht2 : tgt g xs[i] (wipe ρ vs) S' with
          | none => rw [ht2] at hb; cases hb
          | some ρ1 =>
            simp only [ht2, R.opt_some, R.bind_ok] at hb
            refine ⟨D :: B.hid, φ', wipe ρ vs, S', xs[i], ρ1, y2, (re'.ext y1).wipe vs, y3, ht2, fun σ' rσ hw => ⟨?_, ?_⟩⟩
            · rw [hw vs hix]
              have := wipe_eq (L2.wipe σ vs) vs
              rw [this, wipe_eq]
              apply List.ext_getElem?
              intro j
              rw [wipe_get, wipe_get]
              split
              · cases σ[j]? <;> rfl
              · rfl
            · refine ⟨D :: B.hid, φ', ρ1, S', y2, rσ, ?_⟩
              cases hc : mc ρ1 S' with
              | bad => simp only [hc, R.bind] at hb; cases hb
              | exc => simp only [hc, R.bind] at hb; cases hb
              | ok c S4 =>
                simp only [hc, R.bind_ok] at hb
                intro φ4 H4 c' e4 hS4 hcc
                cases hcc
                cases c with
                | false =>
                  simp only [Bool.false_eq_true, if_false] at hb ⊢
                  cases hb
                  split at hq
                  · rename_i hst
                    refine ⟨φ4, _, acc, vacc, x'.trans (y1.trans e4), hS4, re'.ext (y1.trans e4), ?_, ra.ext (y1.trans e4), hst, hq⟩
                    exact (y1.trans e4).keep D _ hD' hDφ
                  · exact hq.elim
                | true =>
                  simp only [if_true] at hb ⊢
                  cases hv : me ρ1 S4 with
                  | bad => simp only [hv, R.bind] at hb; cases hb
                  | exc => simp only [hv, R.bind] at hb; cases hb
                  | ok t S5 =>
                    simp only [hv, R.bind_ok] at hb
                    cases hb
                    refine ⟨D :: B.hid, φ4, ρ1, S4, hS4, rσ.ext e4, ?_⟩
                    rw [hv]
                    intro φ5 H5 y e5 hS5 ry
                    split at hq
                    · rename_i hst
                      have ee := y1.trans (e4.trans e5)
                      have hD5 : H5 D = some (.lst vacc) := ee.keep D _ hD' hDφ
                      have hz : acc.length < lim := by
                        cases hcl : compL l S1 body (xs.drop (i + 1)) (acc ++ [t]) S3 with
                        | bad => rw [hcl] at hq; exact hq.elim
                        | exc => rw [hcl] at hq; exact hq.elim
                        | ok ys S6 =>
                          have := compL_le hcl
                          simp only [List.length_append, List.length_cons, List.length_nil] at this
                          omega
                      have ra5 := ra.ext ee
                      refine ⟨vacc, hD5, by rw [ra5.length]; exact hz, φ5, S3, acc ++ [t], vacc ++ [y], ?_, hS5.chg (fun _ f z => by rw [hD5] at z; cases z), (re'.ext ee).chg, upd_same, (ra5.append (.cons ry .nil)).but But.upd, hst, hq⟩
                      refine ⟨(x'.trans ee).pre, fun b u hb hn => ?_, (x'.trans ee).new⟩
                      rw [upd_ne (ne_of_none hb hD)]
                      exact (x'.trans ee).keep b u hb hn
                    · exact hq.elim
    · left
      refine ⟨hwk.2 (Nat.le_of_not_lt hlt), ?_⟩
      rw [List.drop_eq_nil_of_le (by omega)] at hq
      unfold compL at hq
      split at hq
      · have key := hq φ' (del H' D) vacc ⟨x'.pre, fun b u hb hn => ?_, x'.new⟩ (r'.gone (hS1.ninH hD) fun _ f z => by rw [hD'] at z; cases z) (ra.but But.del).seen D del_same
        · rw [upd_del hD'] at key
          exact key
        · rw [del_ne (ne_of_none hb hD)]
          exact x'.keep b u hb hn
      · exact hq.elim
theorem if_comp {elt iter : Expr} {ifs : List Expr} {scope : Scope} {own : List (Str × Nat)} {g : Tg} {mi : Env → Sto → R (List T × Option Nat)} {mc : Env → Sto → R Bool} {me : Env → Sto → R T} (hi : II B k N sc tg iter mi) (ok : BlkOk N sc.toScope scope own)
    (hg : IG B k N (sc.blk scope) tg g) (hix : ∀ i ∈ g.ix, i ∈ own.map (·.2)) (ht : ∀ ψ, ITs (B.wi ψ) k N (sc.blk scope) ifs mc) (he : ∀ ψ, IE (B.wi ψ) k N (sc.blk scope) elt me) (hs : ∀ env x, foldedSetIterable iter env x = pure x) :
    IF B k N sc (.ListComp elt [⟨tg, iter, ifs, 0⟩] scope pos) (fun ρ S => (mi ρ S).bind fun xl S => compL xl.2 S (fun x S1 => (R.opt (tgt g x (wipe ρ (own.map (·.2))) S1) S1).bind fun ρ1 S1 =>
      (mc ρ1 S1).bind fun k S1 => if k then (me ρ1 S1).bind fun v S1 => .ok (some v) S1 else .ok none S1) xl.1 [] S) := fun X s => by
  refine PE.imp (pe_lc s.calm (by rw [s.hN]; exact s.nd) (hi X s) (by rw [s.hN, s.hsc]; exact ok) (fun s' H C cl fp => hg _ (s.blk scope s' H C cl fp))
    (fun s' H C cl fp => ex_t fun ψ => ht ψ _ ((s.blk scope s' H C cl fp).wi ψ)) (fun s' H C cl fp => ex_e fun ψ => he ψ _ ((s.blk scope s' H C cl fp).wi ψ)) (hs X.env)) fun σ H Q h => comp_read hix σ H Q h
end
end Px
end
section
set_option linter.all false
set_option maxRecDepth 100000
set_option maxHeartbeats 1000000
/-! Px10b: enumerate and zip. -/
namespace Px
open PySem PySem.Spec PyProof.Rows L2

/-- enumerate of anything whose iterator is one new object -/
theorem enum1_new {v : Value} {o : Obj} {Z : Heap → Prop} (G : Begins v o Z) :
    Meets (Builtin.«enumerate.__new__» ⟨[.type "enumerate", v], []⟩) (fun _ R s => Z s.heap ∧
      R (.ok (.ret (.ref (s.heap.push o).objs.size))) { s with heap := (s.heap.push o).push { cls := .type "enumerate", data := .fields #[.none, .bool false, .ref s.heap.objs.size, rawInt 0, .none, .none] } }) :=
  .of_wp fun prog w A R s hz => by
    obtain ⟨hp, g, d, tk, os⟩ := s
    have hsub := sub_enumerate
    have it1 : ∀ {A' : Around} {E Q : Value → Shared → Prop}, Q (.ref hp.objs.size) ⟨hp.push o, g, d, tk, os⟩ → wpAny (model prog w) A' (pyIter v) Q E ⟨hp, g, d, tk, os⟩ := fun q => G.iter prog w _ _ _ _ hz.1 q
    replace hz := hz.2
    wp_walk using it1
    refine wpAny_stack_any fun _ => wpAny_pure ?_
    split <;> first
      | (rename_i c _ _ _ _ _; cases (c == Value.type "enumerate") <;> (wp_walk using it1; exact ⟨_, rfl, hz⟩))
      | (wp_walk using it1; exact ⟨_, rfl, hz⟩)
theorem enum1_call {prog : Program} {w : World} {A : Around} {E : Value → Shared → Prop} {s : Shared} {v : Value} {o : Obj} {Z : Heap → Prop} {Q : Value → Shared → Prop} (G : Begins v o Z) (hz : Z s.heap)
    (h : ∀ h', IsEnum h' (s.heap.objs.size + 1) s.heap.objs.size 0 .none ∧ h'.get? s.heap.objs.size = some o ∧ (∀ b u, s.heap.get? b = some u → h'.get? b = some u) → Q (.ref (s.heap.objs.size + 1)) { s with heap := h' }) :
    wpAny (model prog w) A (call (.type "enumerate") [v]) Q E s := by
  have z1 : (s.heap.push o).objs.size = s.heap.objs.size + 1 := Heap.size_push ..
  refine callType_new F.called_enumerate (by decide) (F.typeCall_enumerate_1 _) (F.newCall_enumerate_1 _) (fun obj => F.args_object_init_2 obj _) F.entry_enumerate_new (enum1_new G) ?_
  rw [z1]
  have he := Heap.get?_push_size (s.heap.push o) (o := { cls := .type "enumerate", data := .fields #[.none, .bool false, .ref s.heap.objs.size, rawInt 0, .none, .none] }) rfl
  rw [z1] at he
  exact ⟨hz, ⟨_, he, rfl⟩, h _ ⟨he, Heap.get?_push_of_some _ (Heap.get?_push_size _ G.free), fun b u q => Heap.get?_push_of_some _ (Heap.get?_push_of_some _ q)⟩⟩
/-- the tuple at a, each item in a new pair -/
def IteT (K : PySem.W.Frag) (a : Addr) : L2.It where
  go := fun i H => ∃ (xs : List V) (x : V), SqT K H a xs ∧ xs[i]? = some x
  yld := fun i H v H' => ∃ T x, v = .ref T ∧ H T = none ∧ H' = upd H T (.tup [.int (i : Nat), x]) ∧ ∀ xs, SqT K H a xs → xs[i]? = some x
  stop := fun i H => ∃ xs : List V, SqT K H a xs ∧ xs.length ≤ i
/-- where the enumeration e of the tuple a by the iterator j stands at turn i -/
def EnT (a e j : Addr) (i : Nat) (h : Heap) : Prop := (∃ old, IsEnum h e j ((i : Nat) : Int) old) ∧ h.IsTupleIter j a i ∧ e ≠ j ∧ a ≠ j ∧ a ≠ e
theorem mem2 {a b c : Addr} (h : c ∈ [a, b]) : c = a ∨ c = b := by simpa using h
theorem turn_enumT {P : Program} {w : World} {K : PySem.W.Frag} {elts : List Expr} {kk : Nat} {tpos : Pos} (a e j : Addr) : Turn P w K (.Tuple elts kk tpos) (IteT K a) [e, j] e (EnT a e j) := by
  refine ⟨by simp, ?obj, ?keep, ?item, ?done, ?self⟩
  case self => exact fun A i s Q E st h => by obtain ⟨⟨_, he⟩, _⟩ := st; exact wpAny_pyIter_enum he h
  case keep => exact fun i h h' st k => ⟨let ⟨u, z⟩ := st.1; ⟨u, k e (by simp) _ z⟩, st.2.1.at fun o q => k j (by simp) o q, st.2.2⟩
  case obj =>
    rintro i h ⟨⟨old, he⟩, ⟨o, ho, _, hd⟩, _⟩ b hb
    rcases mem2 hb with rfl | rfl
    · exact ⟨_, he, fun v q => nomatch q⟩
    · exact ⟨o, ho, fun v q => by rw [hd] at q; cases q⟩
  case item =>
    rintro X rfl rfl rfl hc i pins s σ H E I hf ⟨⟨old, he⟩, hj, n1, n2, n3⟩ ⟨xs, x, hq, hx⟩
    obtain ⟨its, rv, tu, _⟩ := I.tuple hq
    obtain ⟨u, hu, ru⟩ := rv.get hx
    have lte : e < s.heap.objs.size := Heap.lt_size he
    have lti : i < its.toArray.size := by simpa using (List.getElem?_eq_some_iff.mp hu).1
    refine wpAny_pyNext_enum_itemD (Draws.tuple (A := X.A.in1) (show X.A.in1.handled = none from I.ok.hd hc) j a n2 its.toArray) he ⟨hj, tu⟩ lti n1 (by simp [n1, Ne.symm n3]) ?_
    intro y h1 tk hy ho hj1 hT _ hk
    obtain rfl : u = y := Option.some.inj (by rw [← hy]; simpa using hu.symm)
    refine ⟨_, rfl, wpAny_letOwnedTupleGo_enum (s := { s with heap := h1, toks := tk + 1 }) ho fun h2 he2 sb => ?_⟩
    have I1 : Inv X pins σ (upd H s.heap.objs.size (.tup [.int (i : Nat), x])) { s with heap := h2, toks := tk + 1 } := by
      refine I.turnedNew (ch := [e, j]) (fun b ob hb q => ?_) hf (Nat.le_refl _) ⟨by show 2 ≤ sizeLine; decide, [.int i tk, u], .cons ⟨_, rfl⟩ (.cons ru .nil), ⟨_, (sb.2 _ (Nat.ne_of_gt lte)).trans hT, rfl, _, rfl⟩⟩
      rw [List.mem_cons, List.mem_singleton, not_or] at hb
      exact (sb.2 b hb.1).trans (hk b ob hb.1 hb.2 q)
    refine ⟨.ref s.heap.objs.size, _, I1, rfl, ⟨_, x, rfl, I.hok.fresh (Nat.le_refl _), rfl, fun ys hy => by rw [I.tuple_inj hy hq]; exact hx⟩, ⟨⟨u, by rw [show ((i + 1 : Nat) : Int) = (i : Int) + 1 by omega]; exact he2⟩, hj1.1.at fun o q => (sb.2 j (Ne.symm n1)).trans q, n1, n2, n3⟩, fun b hb => ?_⟩
    have ltb : b < s.heap.objs.size := by
      rcases mem2 hb with rfl | rfl
      · exact lte
      · obtain ⟨_, q, _⟩ := hj; exact Heap.lt_size q
    rw [upd_ne (Nat.ne_of_lt ltb)]
    exact (hf b hb).1
  case done =>
    rintro X rfl rfl rfl hc i pins s σ H E I hf ⟨⟨old, he⟩, hj, n1, n2, n3⟩ ⟨xs, hq, hx⟩
    obtain ⟨its, rv, tu, _⟩ := I.tuple hq
    have hl := rv.length
    have hi : i = its.toArray.size ∨ its.toArray.size < i := by simp; omega
    obtain ⟨f0, f1, f2, f3, f4, f5⟩ := hf j (by simp)
    have ty : s.TypeIs (.ref e) "enumerate" := ⟨_, he, rfl⟩
    unfold pyNext
    refine wpAny_bind (wpAny_attempt (wpAny_callSpecial?_slot (name := Str.ofString "__next__") ty PySem.F.slot_enumerate_next (wpAny_call_entry PySem.F.slot_enumerate_next ty PySem.F.entry_enumerate_next ?_ (PySem.F.args_enumerate_next_1 _))))
    show wpAny _ _ (field (.ref e) 2 >>= fun z => _) _ _ s
    refine wpAny_bind (wpAny_field he rfl (x := .ref j) rfl ?_)
    refine wpAny_bind (wpAny_nextOf_tuple_end (I.ok.hd hc) hj tu (by simp; omega) ?_)
    rintro h1 z hz ⟨o, ho, hcl⟩
    exact wpAny_bind (wpAny_isInstance (T := "StopIteration") (b := true) ⟨o, ho, hcl⟩ PySem.isSubtype_stop (wpAny_pure ⟨rfl, I.turned (t' := s.toks) (fun b o hb q => hz b o hb q) f0 f1 f3 f4 f5⟩))
def iEnumT (K : PySem.W.Frag) (ta : TA) : TI := fun σ H R => ta σ H fun vs H1 => ∃ a xs, vs = [.ref a] ∧ SqT K H1 a xs ∧ R (IteT K a) H1
theorem pi_enumT {X : Cx} {e : Expr} {ta : TA} {p pos tpos : Pos} {elts : List Expr} {kk : Nat} (hg : Gl X "enumerate") (hm : X.mg "enumerate" = none) (ha : PA X [e] ta) (hs : starEach [e] X.env = [(false, eval e X.env)]) :
    PI X (.Tuple elts kk tpos) (.Call (.Name "enumerate" p) [e] [] pos) (iEnumT X.K ta) := ⟨fun pins s σ H R I h => by
  refine Call_ (ld_blt I hg hm boot_enumerate (PyProof.Rows.callWith_type1 (thn (ha.run pos pins s σ H _ I h) ?_) hs rfl))
  rintro us s1 ⟨vs, H1, I1, r1, a, xs, rfl, hq, q⟩
  cases r1 with
  | cons r rr =>
    cases rr
    cases r
    obtain ⟨its, _, tu, _⟩ := I1.tuple hq
    have lta : a < s1.heap.objs.size := by obtain ⟨_, z, _⟩ := id tu; exact Heap.lt_size z
    refine enum1_call (begins_tuple a its.toArray) tu fun h1 ⟨he, hj, hk⟩ => wpAny_pyIter_enum he ?_
    have fresh : ∀ b ∈ [s1.heap.objs.size + 1, s1.heap.objs.size], FpOk X pins H1 b := fun b hb => by
      have le : s1.heap.objs.size ≤ b := by rcases mem2 hb with rfl | rfl <;> omega
      exact I1.fpOk le (I1.hok.fresh le)
    exact ⟨_, _, _, _, H1, rfl, I1.kept (t' := s1.toks) hk, turn_enumT a (s1.heap.objs.size + 1) s1.heap.objs.size, ⟨⟨.none, he⟩, ⟨_, hj, rfl, rfl⟩, Nat.succ_ne_self _, Nat.ne_of_lt lta, Nat.ne_of_lt (Nat.lt_succ_of_lt lta)⟩, fresh, q⟩⟩
section
variable {B : Base} {k : Nat} {N : List Str} {sc : Scp} {e : Expr} {pos : Pos} {tg : Expr}
theorem pairN_get {xs : List T} {i : Nat} {t : T} (h : (pairN xs)[i]? = some t) : ∃ t0, xs[i]? = some t0 ∧ t = .tup [.int i, t0] := by
  unfold pairN at h
  rw [List.getElem?_map, List.getElem?_zipIdx, Nat.zero_add] at h
  cases e : xs[i]? with
  | none => rw [e] at h; cases h
  | some t0 => rw [e] at h; cases h; exact ⟨t0, rfl, rfl⟩
theorem pairN_len {xs : List T} : (pairN xs).length = xs.length := by simp [pairN]
theorem walks_enumL {φ1 : List Addr} {S1 : Sto} {H1 : Hp} {a : Addr} {xs : List T} {l : Option Nat} (h : Walks B φ1 S1 H1 (Itl B.K a) xs l) : Walks B φ1 S1 H1 (Ite B.K a) (pairN xs) l := fun ψ φ S H hψ x r' st i => by
  obtain ⟨h1, h2⟩ := h ψ φ S H hψ x r' st i
  refine ⟨fun t ht => ?_, fun hi => h2 (by rw [pairN_len] at hi; exact hi)⟩
  obtain ⟨t0, ht0, rfl⟩ := pairN_get ht
  obtain ⟨hgo, hy⟩ := h1 t0 ht0
  refine ⟨hgo, fun v H' hyl => ?_⟩
  obtain ⟨T, w, rfl, hT, rfl, hw⟩ := hyl
  obtain ⟨_, _, rw2⟩ := hy w H ⟨rfl, hw⟩
  exact ⟨Ext.upd hT, r'.upd hT, .tup (.inl ⟨.inl upd_same, r'.nin hT, r'.ninH hT⟩) (.cons (.int _) (.cons (rw2.ext (Ext.upd hT)) .nil))⟩
theorem walks_enumT {φ1 : List Addr} {S1 : Sto} {H1 : Hp} {a : Addr} {xs : List T} {l : Option Nat} (h : Walks B φ1 S1 H1 (Itt B.K a) xs l) : Walks B φ1 S1 H1 (IteT B.K a) (pairN xs) l := fun ψ φ S H hψ x r' st i => by
  obtain ⟨h1, h2⟩ := h ψ φ S H hψ x r' st i
  refine ⟨fun t ht => ?_, fun hi => h2 (by rw [pairN_len] at hi; exact hi)⟩
  obtain ⟨t0, ht0, rfl⟩ := pairN_get ht
  obtain ⟨hgo, hy⟩ := h1 t0 ht0
  refine ⟨hgo, fun v H' hyl => ?_⟩
  obtain ⟨T, w, rfl, hT, rfl, hw⟩ := hyl
  obtain ⟨_, _, rw2⟩ := hy w H ⟨rfl, hw⟩
  exact ⟨Ext.upd hT, r'.upd hT, .tup (.inl ⟨.inl upd_same, r'.nin hT, r'.ninH hT⟩) (.cons (.int _) (.cons (rw2.ext (Ext.upd hT)) .nil))⟩
theorem ii_enum {m : Env → Sto → R T} {p tpos : Pos} {elts : List Expr} {kk : Nat} (hg : sc.names.lookup ("enumerate" : Str) = some .globalImplicit) (hm : B.mg "enumerate" = none) (hs : isStar e = false) (h : IE B k N sc e m) :
    II B k N sc (.Tuple elts kk tpos) (.Call (.Name "enumerate" p) [e] [] pos) (fun ρ S => (m ρ S).bind fun x S => R.opt ((seqT (vw S x)).map fun xs => (pairN xs, locOf x)) S) := fun X s => by
  refine PI.imp (PI.or (pi_enum (gl_of s hg) (by rw [s.hmg]; exact hm) (pa_cons (h X s) pa_nil (star_head hs)) (star_head hs)) (pi_enumT (gl_of s hg) (by rw [s.hmg]; exact hm) (pa_cons (h X s) pa_nil (star_head hs)) (star_head hs))) fun σ H Q ⟨φ, ρ, S, hS, hE, hp⟩ => ?_
  cases hx : m ρ S with
  | bad => simp only [hx, R.bind] at hp; exact hp.elim
  | exc => simp only [hx, R.bind] at hp; exact hp.elim
  | ok x S1 =>
    simp only [hx, R.bind_ok] at hp
    rw [s.hK]
    cases ea : vw S1 x with
    | vl xs =>
      rw [ea] at hp
      refine .inl ⟨φ, ρ, S, hS, hE, ?_⟩
      rw [hx]
      intro φ1 H1 v e1 hS1 rv
      obtain ⟨a, vs, rfl, h1, h2⟩ := walks_list hS1 rv ea
      exact ⟨a, vs, rfl, .of h1, hp φ1 H1 _ e1 hS1 (walks_enumL h2)⟩
    | tup xs =>
      rw [ea] at hp
      refine .inr ⟨φ, ρ, S, hS, hE, ?_⟩
      rw [hx]
      intro φ1 H1 v e1 hS1 rv
      obtain ⟨a, vs, rfl, h1, h2⟩ := walks_tup (S1 := S1) rv ea
      exact ⟨a, vs, rfl, h1, hp φ1 H1 _ e1 hS1 (walks_enumT h2)⟩
    | _ => rw [ea] at hp; exact hp.elim
/-! ### zip of two tuples, of two lists that no one changes -/
theorem pairZ_get {xs ys : List T} {i : Nat} {t : T} (h : (pairZ xs ys)[i]? = some t) : ∃ t0 t1, xs[i]? = some t0 ∧ ys[i]? = some t1 ∧ t = .tup [t0, t1] := by
  unfold pairZ at h
  rw [List.getElem?_map] at h
  obtain ⟨p, hp, rfl⟩ := Option.map_eq_some_iff.mp h
  rw [List.getElem?_zip_eq_some] at hp
  exact ⟨p.1, p.2, hp.1, hp.2, rfl⟩
theorem pairZ_len {xs ys : List T} : (pairZ xs ys).length = min xs.length ys.length := by simp [pairZ]
theorem walks_zipT {φ1 : List Addr} {S1 : Sto} {H1 : Hp} {a b : Addr} {xs ys : List T} (h : Walks B φ1 S1 H1 (Itt B.K a) xs none) (g : Walks B φ1 S1 H1 (Itt B.K b) ys none) : Walks B φ1 S1 H1 (RZ.ItzT B.K a b) (pairZ xs ys) none := fun ψ φ S H hψ x r' st i => by
  obtain ⟨h1, h2⟩ := h ψ φ S H hψ x r' st i
  obtain ⟨g1, g2⟩ := g ψ φ S H hψ x r' st i
  refine ⟨fun t ht => ?_, fun hi => ?_⟩
  · obtain ⟨t0, t1, ht0, ht1, rfl⟩ := pairZ_get ht
    obtain ⟨⟨vs, v0, q1, q2⟩, hy⟩ := h1 t0 ht0
    obtain ⟨⟨ws, w0, q3, q4⟩, gy⟩ := g1 t1 ht1
    refine ⟨⟨vs, ws, v0, w0, q1, q3, q2, q4⟩, fun v H' hyl => ?_⟩
    obtain ⟨T, x0, y0, rfl, hT, rfl, hx, hy0⟩ := hyl
    obtain ⟨_, _, rw2⟩ := hy x0 H ⟨rfl, hx⟩
    obtain ⟨_, _, rw3⟩ := gy y0 H ⟨rfl, hy0⟩
    exact ⟨Ext.upd hT, r'.upd hT, .tup (.inl ⟨.inl upd_same, r'.nin hT, r'.ninH hT⟩) (.cons (rw2.ext (Ext.upd hT)) (.cons (rw3.ext (Ext.upd hT)) .nil))⟩
  · rw [pairZ_len] at hi
    by_cases c : xs.length ≤ i
    · obtain ⟨vs, q1, q2⟩ := h2 c
      by_cases c2 : ys.length ≤ i
      · obtain ⟨ws, q3, q4⟩ := g2 c2
        exact ⟨vs, ws, q1, q3, .inl q2⟩
      · obtain ⟨⟨ws, w0, q3, q4⟩, _⟩ := g1 _ (List.getElem?_eq_getElem (Nat.lt_of_not_le c2))
        exact ⟨vs, ws, q1, q3, .inl q2⟩
    · have c2 : ys.length ≤ i := by omega
      obtain ⟨ws, q3, q4⟩ := g2 c2
      obtain ⟨⟨vs, v0, q1, q2⟩, _⟩ := h1 _ (List.getElem?_eq_getElem (Nat.lt_of_not_le c))
      exact ⟨vs, ws, q1, q3, .inr q4⟩
theorem walks_zipL {φ1 : List Addr} {S1 : Sto} {H1 : Hp} {a b : Addr} {xs ys : List T} (h : Walks B φ1 S1 H1 (Itl B.K a) xs none) (g : Walks B φ1 S1 H1 (Itl B.K b) ys none) : Walks B φ1 S1 H1 (Itz B.K a b) (pairZ xs ys) none := fun ψ φ S H hψ x r' st i => by
  obtain ⟨h1, h2⟩ := h ψ φ S H hψ x r' st i
  obtain ⟨g1, g2⟩ := g ψ φ S H hψ x r' st i
  refine ⟨fun t ht => ?_, fun hi => ?_⟩
  · obtain ⟨t0, t1, ht0, ht1, rfl⟩ := pairZ_get ht
    obtain ⟨⟨vs, v0, q1, q2⟩, hy⟩ := h1 t0 ht0
    obtain ⟨⟨ws, w0, q3, q4⟩, gy⟩ := g1 t1 ht1
    refine ⟨⟨vs, ws, v0, w0, q1, q3, q2, q4⟩, fun v H' hyl => ?_⟩
    obtain ⟨T, x0, y0, rfl, hT, rfl, hx, hy0⟩ := hyl
    obtain ⟨_, _, rw2⟩ := hy x0 H ⟨rfl, hx⟩
    obtain ⟨_, _, rw3⟩ := gy y0 H ⟨rfl, hy0⟩
    exact ⟨Ext.upd hT, r'.upd hT, .tup (.inl ⟨.inl upd_same, r'.nin hT, r'.ninH hT⟩) (.cons (rw2.ext (Ext.upd hT)) (.cons (rw3.ext (Ext.upd hT)) .nil))⟩
  · rw [pairZ_len] at hi
    by_cases c : xs.length ≤ i
    · obtain ⟨vs, q1, q2⟩ := h2 c
      by_cases c2 : ys.length ≤ i
      · obtain ⟨ws, q3, q4⟩ := g2 c2
        exact ⟨vs, ws, q1, q3, .inl q2⟩
      · obtain ⟨⟨ws, w0, q3, q4⟩, _⟩ := g1 _ (List.getElem?_eq_getElem (Nat.lt_of_not_le c2))
        exact ⟨vs, ws, q1, q3, .inl q2⟩
    · have c2 : ys.length ≤ i := by omega
      obtain ⟨ws, q3, q4⟩ := g2 c2
      obtain ⟨⟨vs, v0, q1, q2⟩, _⟩ := h1 _ (List.getElem?_eq_getElem (Nat.lt_of_not_le c))
      exact ⟨vs, ws, q1, q3, .inr q4⟩
theorem ii_zip {a b : Expr} {ma mb : Env → Sto → R T} {p tpos : Pos} {elts : List Expr} {kk : Nat} (hg : sc.names.lookup ("zip" : Str) = some .globalImplicit) (hm : B.mg "zip" = none) (hs : isStar a = false) (hs2 : isStar b = false) (ha : IE B k N sc a ma) (hb : IE B k N sc b mb) :
    II B k N sc (.Tuple elts kk tpos) (.Call (.Name "zip" p) [a, b] [] pos) (fun ρ S => (ma ρ S).bind fun x S => (mb ρ S).bind fun y S => R.opt ((zipT x y).map fun ps => (ps, none)) S) := fun X s => by
  refine PI.imp (RZ.pi_zipA (gl_of s hg) (by rw [s.hmg]; exact hm) (pa_cons (ha X s) (pa_cons (hb X s) pa_nil (star_head hs2)) (star_head hs)) (star_head hs) (star_none (by simp [hs2]))) fun σ H Q ⟨φ, ρ, S, hS, hE, hp⟩ => ?_
  cases hx : ma ρ S with
  | bad => simp only [hx, R.bind] at hp; exact hp.elim
  | exc => simp only [hx, R.bind] at hp; exact hp.elim
  | ok x S1 =>
    simp only [hx, R.bind_ok] at hp
    refine ⟨φ, ρ, S, hS, hE, ?_⟩
    rw [hx]
    intro φ1 H1 v e1 hS1 rv
    refine ⟨φ1, ρ, S1, hS1, hE.ext e1, ?_⟩
    cases hy : mb ρ S1 with
    | bad => simp only [hy, R.bind] at hp; exact hp.elim
    | exc => simp only [hy, R.bind] at hp; exact hp.elim
    | ok y S2 =>
      simp only [hy, R.bind_ok] at hp
      obtain ⟨ys, hz, hp⟩ := hp.opt
      intro φ2 H2 w e2 hS2 rw2
      have rv2 := rv.ext e2
      rw [s.hK]
      cases x with
      | tup xs =>
        cases y with
        | tup zs =>
          cases hz
          obtain ⟨a1, vs1, rfl, h1, w1⟩ := walks_tup (S1 := S2) rv2 rfl
          obtain ⟨a2, vs2, rfl, h2, w2⟩ := walks_tup (S1 := S2) rw2 rfl
          exact ⟨a1, a2, vs1, vs2, rfl, .inr ⟨h1, h2, hp φ2 H2 _ (e1.trans e2) hS2 (walks_zipT w1 w2)⟩⟩
        | _ => cases hz
      | vl xs =>
        cases y with
        | vl zs =>
          cases hz
          obtain ⟨a1, vs1, rfl, h1, w1⟩ := walks_list hS2 rv2 rfl
          obtain ⟨a2, vs2, rfl, h2, w2⟩ := walks_list hS2 rw2 rfl
          exact ⟨a1, a2, vs1, vs2, rfl, .inl ⟨.of h1, .of h2, hp φ2 H2 _ (e1.trans e2) hS2 (walks_zipL w1 w2)⟩⟩
        | _ => cases hz
      | _ => cases y <;> cases hz
end
end Px
end
section
set_option linter.all false
set_option maxRecDepth 100000
/-! Px11: dict displays; statements. -/
namespace Px
open PySem PySem.Spec PyProof.Rows L2
section
variable {B : Base} {k : Nat} {N : List Str} {sc : Scp} {e : Expr} {es : List Expr} {pos : Pos}

/-! ### dict displays with written texts as keys -/
def isKey (x : Str) : Option Expr → Bool
  | some (.Constant (.str y) _ _) => x == y
  | _ => false
def keysAre : List Str → List (Option Expr) → Bool
  | [], [] => true
  | x :: xs, e :: es => isKey x e && keysAre xs es
  | _, _ => false
def ID (B : Base) (k : Nat) (N : List Str) (sc : Scp) (ks : List Str) (es : List Expr) (ms : Env → Sto → R (List T)) : Prop := ∀ X, Sit B k N sc X → ∀ (pos : Pos) (keys : List (Option Expr)), keysAre ks keys = true → ∃ trs, PPs X pos keys es trs ∧ keys.length = es.length ∧
  ∀ ψ φ ρ S σ H (Q : List (V × V) → Hp → Prop), RelS B.K B.mg ψ φ S H → RelE B.K B.mg ψ φ H ρ σ → Post (B.wi ψ) (B.wi ψ).reps φ H (ms ρ S) (fun vs H' => Q ((ks.zip vs).map fun p => (V.str p.1, p.2)) H') → tPairs trs σ H Q
theorem id_nil : ID B k N sc [] [] (fun _ S => .ok [] S) := fun X s pos keys hk => by
  cases keys with
  | nil => exact ⟨_, pps_nil, rfl, fun ψ φ ρ S σ H Q hS hE hp => Post.ok (B := B.wi ψ) (rep := (B.wi ψ).reps) hp hS .nil⟩
  | cons a b => cases hk
theorem id_cons {x : Str} {ks : List Str} {m : Env → Sto → R T} {ms : Env → Sto → R (List T)} (he : ∀ ψ, IE (B.wi ψ) k N sc e m) (hr : ID B k N sc ks es ms) :
    ID B k N sc (x :: ks) (e :: es) (fun ρ S => (m ρ S).bind fun x S => (ms ρ S).bind fun xs S => .ok (x :: xs) S) := fun X s pos keys hk => by
  cases keys with
  | nil => cases hk
  | cons ke keys =>
    rw [keysAre, Bool.and_eq_true] at hk
    obtain ⟨trs, h1, hl, h2⟩ := hr X s pos keys hk.2
    have hke : ∃ j p, ke = some (.Constant (.str x) j p) := by
      have := hk.1
      unfold isKey at this
      split at this
      · rw [beq_iff_eq] at this
        subst this
        exact ⟨_, _, rfl⟩
      · cases this
    obtain ⟨j, p, rfl⟩ := hke
    refine ⟨_, pps_cons pe_str (ex_e fun ψ => he ψ X (s.wi ψ)) h1, by simp [hl], fun ψ φ ρ S σ H Q hS hE hp => ?_⟩
    refine ⟨ψ, φ, ρ, S, hS, hE, hp.bind fun t S1 φ1 H1 v _ e1 hS1 rv hp1 => ?_⟩
    refine h2 ψ φ1 ρ S1 σ H1 _ hS1 (hE.ext e1) (hp1.bind fun ts S2 φ2 H2 vs _ e2 hS2 rv2 hp2 => ?_)
    exact hp2.ok hS2 (.cons (rv.ext e2) rv2)
theorem merge_nodup : ∀ {kvs acc : List (Key × V)}, (acc.map (·.1) ++ kvs.map (·.1)).Nodup → mergeK acc kvs = acc ++ kvs
  | [], acc, _ => by simp [mergeK]
  | p :: kvs, acc, h => by
    have e : putK acc p.1 p.2 = acc ++ [p] := by
      have hn : p.1 ∉ acc.map (·.1) := fun z => by
        rw [List.nodup_append] at h
        exact h.2.2 _ z _ (by simp) rfl
      unfold putK
      rw [if_neg]
      simp only [List.any_eq_true, not_exists, not_and]
      intro q hq z
      exact hn (List.mem_map.mpr ⟨q, hq, of_decide_eq_true z⟩)
    have : mergeK acc (p :: kvs) = mergeK (putK acc p.1 p.2) kvs := rfl
    rw [this, e, merge_nodup (by simpa using h)]
    simp
theorem ie_dic0 : IE B k N sc (.Dict [] [] pos) (fun _ S => .ok (.vd [] []) S) := fun X s =>
  PE.imp pe_dnewT fun σ H Q ⟨φ, ρ, S, hS, hE, hp⟩ p hn => hp φ _ _ (Ext.upd hn) (hS.upd hn) (.vd0 upd_same ⟨hS.nin hn, hS.ninH hn⟩)
theorem zip_rep {ψ φ : List Addr} {H : Hp} : ∀ {ks : List Str} {vs : List V}, ks.length = vs.length → Reps B.K B.mg ψ φ H (((ks.zip vs).map fun p => ((Sum.inr p.1 : Key), p.2)).map fun p => kV p.1) (ks.map T.str)
  | [], [], _ => .nil
  | x :: ks, v :: vs, h => .cons (.str x) (zip_rep (by simpa using h))
  | [], _ :: _, h => by simp at h
  | _ :: _, [], h => by simp at h
theorem zip_snd {ks : List Str} {vs : List V} (h : ks.length = vs.length) : ((ks.zip vs).map fun p => ((Sum.inr p.1 : Key), p.2)).map (·.2) = vs := by
  rw [List.map_map]
  exact (zip_of h).2
theorem zip_fst {ks : List Str} {vs : List V} (h : ks.length = vs.length) : ((ks.zip vs).map fun p => ((Sum.inr p.1 : Key), p.2)).map (·.1) = ks.map Sum.inr := by
  rw [List.map_map]
  have := congrArg (List.map (Sum.inr : Str → Key)) (zip_of h).1
  rw [List.map_map] at this
  exact this
theorem ie_dic {ks : List Str} {keys : List (Option Expr)} {ms : Env → Sto → R (List T)} (hr : ID B k N sc ks es ms) (hk : keysAre ks keys = true) (h0 : ks ≠ []) (hn : ks.Nodup) (h15 : ks.length ≤ 15) :
    IE B k N sc (.Dict keys es pos) (fun ρ S => (ms ρ S).bind fun ys S => R.opt (gd (decide (ks.length = ys.length)) (.vd (ks.map .str) ys)) S) := fun X s => by
  have hkl : ∀ {ks : List Str} {keys : List (Option Expr)}, keysAre ks keys = true → keys.length = ks.length ∧ keys.all (·.isSome) = true := by
    intro ks
    induction ks with
    | nil =>
      intro keys h
      cases keys with
      | nil => exact ⟨rfl, rfl⟩
      | cons a b => cases h
    | cons x ks ih =>
      intro keys h
      cases keys with
      | nil => cases h
      | cons a b =>
        rw [keysAre, Bool.and_eq_true] at h
        obtain ⟨h1, h2⟩ := ih h.2
        refine ⟨by simp [h1], ?_⟩
        rw [List.all_cons, h2, Bool.and_true]
        cases a with
        | none => cases h.1
        | some _ => rfl
  obtain ⟨hl1, hall⟩ := hkl hk
  obtain ⟨trs, h1, hl, h2⟩ := hr X s pos keys hk
  refine PE.imp (pe_disp h1 hall hl (fun z => h0 (by rw [z] at hl1; exact List.eq_nil_of_length_eq_zero hl1.symm)) (by omega)) fun σ H Q ⟨φ, ρ, S, hS, hE, hp⟩ p hpn => ?_
  refine h2 (p :: B.hid) φ ρ S σ _ _ (hS.hide hpn) (hE.hide hpn) ?_
  cases hm : ms ρ S with
  | bad => simp only [hm, R.bind] at hp; exact hp.elim
  | exc => simp only [hm, R.bind] at hp; exact hp.elim
  | ok ys S1 =>
    simp only [hm, R.bind_ok] at hp
    obtain ⟨hz, hp⟩ := hp.gd
    have hz := of_decide_eq_true hz
    intro φ1 H1 vs e1 hS1 rv
    have pφ : p ∉ φ := hS.nin hpn
    have hp1 : H1 p = some (.dK []) := e1.keep p _ upd_same pφ
    have pφ1 : p ∉ φ1 := (hS1.hid p List.mem_cons_self).1
    have hlv : ks.length = vs.length := by rw [rv.length]; exact hz
    refine ⟨hp1, (ks.zip vs).map fun q => ((Sum.inr q.1 : Key), q.2), ?_, ?_, ?_⟩
    · rw [List.map_map]; rfl
    · rw [List.length_map, List.length_zip]; omega
    · rw [merge_nodup (acc := []) (by
        rw [List.map_nil, List.nil_append, zip_fst hlv]
        exact List.pairwise_map.mpr (List.Pairwise.imp (fun h e => h (Sum.inr.inj e)) hn)), List.nil_append]
      have np : p ∉ B.hid := hS.ninH hpn
      have hS2 : RelS B.K B.mg B.hid φ1 S1 (upd H1 p (.dK ((ks.zip vs).map fun q => ((Sum.inr q.1 : Key), q.2)))) := by
        have g := (hS1.gone np fun _ f z => by rw [hp1] at z; cases z).upd (a := p) (o := .dK ((ks.zip vs).map fun q => ((Sum.inr q.1 : Key), q.2))) del_same
        have e2 : upd (del H1 p) p (.dK ((ks.zip vs).map fun q => ((Sum.inr q.1 : Key), q.2))) = upd H1 p (.dK ((ks.zip vs).map fun q => ((Sum.inr q.1 : Key), q.2))) := by
          funext b
          by_cases z : b = p
          · subst z; rw [upd_same, upd_same]
          · rw [upd_ne z, upd_ne z, del_ne z]
        rw [e2] at g
        exact g
      refine hp φ1 _ _ ⟨e1.pre, fun b u hb hn => ?_, fun b hb hn => ?_⟩ hS2 (.vd upd_same ?_ ⟨pφ1, np⟩ (zip_rep hlv) ?_)
      · rw [upd_ne (ne_of_none hb hpn)]
        exact e1.keep b u (by rw [upd_ne (ne_of_none hb hpn)]; exact hb) hn
      · have := e1.new b hb hn
        by_cases z : b = p
        · rw [z]; exact hpn
        · rw [upd_ne z] at this; exact this
      · intro z
        have := congrArg List.length z
        rw [List.length_map, List.length_zip] at this
        cases ks with
        | nil => exact h0 rfl
        | cons a b =>
          cases vs with
          | nil => simp at hlv
          | cons c d => simp at this
      · rw [zip_snd hlv]
        exact (rv.but But.upd).seen

/-! ### statements -/
def PostS (B : Base) (φ : List Addr) (H : Hp) (r : R (Fl × Env)) (D : Ends) : Prop := match r with
  | .ok (.nx, ρ') S' => ∀ φ' H' σ', Ext φ H φ' H' → RelS B.K B.mg B.hid φ' S' H' → RelE B.K B.mg B.hid φ' H' ρ' σ' → D.nx σ' H'
  | .ok (.bk, ρ') S' => ∀ φ' H' σ', Ext φ H φ' H' → RelS B.K B.mg B.hid φ' S' H' → RelE B.K B.mg B.hid φ' H' ρ' σ' → D.bk σ' H'
  | .ok (.ct, ρ') S' => ∀ φ' H' σ', Ext φ H φ' H' → RelS B.K B.mg B.hid φ' S' H' → RelE B.K B.mg B.hid φ' H' ρ' σ' → D.ct σ' H'
  | .ok (.rt t, _) S' => ∀ φ' H' v, Ext φ H φ' H' → RelS B.K B.mg B.hid φ' S' H' → B.rep φ' H' v t → D.rt v H'
  | _ => False
theorem PostS.later {φ φ1 : List Addr} {H H1 : Hp} {r : R (Fl × Env)} {D : Ends} (h : PostS B φ H r D) (e : Ext φ H φ1 H1) : PostS B φ1 H1 r D := by
  cases r with
  | ok a S =>
    obtain ⟨f, ρ'⟩ := a
    cases f <;> exact fun φ' H' v x => h φ' H' v (e.trans x)
  | exc => exact h
  | bad => exact h
def tS (B : Base) (m : Env → Sto → R (Fl × Env)) : TS := fun D σ H => ∃ φ ρ S, RelS B.K B.mg B.hid φ S H ∧ RelE B.K B.mg B.hid φ H ρ σ ∧ PostS B φ H (m ρ S) D
def IS (B : Base) (k : Nat) (N : List Str) (sc : Scp) (st : Stmt) (m : Env → Sto → R (Fl × Env)) : Prop := ∀ X, Sit B k N sc X → PS X st (tS B m)
def ISs (B : Base) (k : Nat) (N : List Str) (sc : Scp) (st : List Stmt) (m : Env → Sto → R (Fl × Env)) : Prop := ∀ X, Sit B k N sc X → PSs X st (tS B m)
theorem PS.imp {X : Cx} {st : Stmt} {t t' : TS} (h : PS X st t) (hi : ∀ D σ H, t' D σ H → t D σ H) : PS X st t' := ⟨fun pins s σ H D I q => h.run pins s σ H D I (hi _ _ _ q)⟩
theorem PSs.imp {X : Cx} {st : List Stmt} {t t' : TS} (h : PSs X st t) (hi : ∀ D σ H, t' D σ H → t D σ H) : PSs X st t' := ⟨fun pins s σ H D I q => h.run pins s σ H D I (hi _ _ _ q)⟩
/-- a reckoning ahead of a statement's end -/
theorem PostS.bind {α β : Type} {rep : List Addr → Hp → β → α → Prop} {φ : List Addr} {H : Hp} {r : R α} {f : α → Sto → R (Fl × Env)} {D : Ends} {Q1 : β → Hp → Prop} (h : PostS B φ H (r.bind f) D)
    (hf : ∀ t S1 φ1 H1 v, r = .ok t S1 → Ext φ H φ1 H1 → RelS B.K B.mg B.hid φ1 S1 H1 → rep φ1 H1 v t → PostS B φ1 H1 (f t S1) D → Q1 v H1) : Post B rep φ H r Q1 := by
  cases r with
  | ok t S => exact fun φ' H' v x s q => hf t S φ' H' v rfl x s q (PostS.later (r := f t S) h x)
  | exc => exact h
  | bad => exact h
theorem PostS.opt {α : Type} {φ : List Addr} {H : Hp} {S : Sto} {o : Option α} {f : α → Sto → R (Fl × Env)} {D : Ends} (h : PostS B φ H ((R.opt o S).bind f) D) : ∃ t, o = some t ∧ PostS B φ H (f t S) D := by
  cases o with
  | none => exact h.elim
  | some t => exact ⟨t, rfl, h⟩
variable {st : Stmt} {rest : List Stmt}
theorem iss_nil : ISs B k N sc [] (fun ρ S => .ok (.nx, ρ) S) := fun X s => PSs.imp pss_nil fun D σ H ⟨φ, ρ, S, hS, hE, hp⟩ => hp φ H σ Ext.refl hS hE
theorem iss_cons {m ms : Env → Sto → R (Fl × Env)} (h1 : IS B k N sc st m) (h2 : ISs B k N sc rest ms) : ISs B k N sc (st :: rest) (fun ρ S => (m ρ S).bind fun r S => match r.1 with
    | .nx => ms r.2 S
    | f => .ok (f, r.2) S) := fun X s => by
  refine PSs.imp (pss_cons (h1 X s) (h2 X s)) fun D σ H ⟨φ, ρ, S, hS, hE, hp⟩ => ?_
  refine ⟨φ, ρ, S, hS, hE, ?_⟩
  cases hm : m ρ S with
  | bad => simp only [hm, R.bind] at hp; exact hp.elim
  | exc => simp only [hm, R.bind] at hp; exact hp.elim
  | ok r S1 =>
    obtain ⟨f, ρ'⟩ := r
    simp only [hm, R.bind_ok] at hp
    cases f with
    | nx => exact fun φ' H' σ' x r' e' => ⟨φ', ρ', S1, r', e', PostS.later (r := ms ρ' S1) hp x⟩
    | rt v => exact hp
    | bk => exact hp
    | ct => exact hp
theorem is_exp {m : Env → Sto → R T} (h : IE B k N sc e m) (hs : ∀ env, swapsWith e none pos.line env = pure false) : IS B k N sc (.Expr e pos) (fun ρ S => (m ρ S).bind fun _ S => .ok (.nx, ρ) S) := fun X s =>
  PS.imp (ps_expr (h X s) (hs _)) fun D σ H ⟨φ, ρ, S, hS, hE, hp⟩ => ⟨φ, ρ, S, hS, hE, hp.bind fun t S1 φ1 H1 v _ e1 hS1 rv hp1 => hp1 φ1 H1 σ Ext.refl hS1 (hE.ext e1)⟩
theorem is_doc {x : Str} {j : Nat} {p : Pos} : IS B k N sc (.Expr (.Constant (.str x) j p) pos) (fun ρ S => .ok (.nx, ρ) S) := fun X s =>
  PS.imp ps_doc fun D σ H ⟨φ, ρ, S, hS, hE, hp⟩ => hp φ H σ Ext.refl hS hE
theorem is_pass : IS B k N sc (.Pass pos) (fun ρ S => .ok (.nx, ρ) S) := fun X s => PS.imp ps_pass fun D σ H ⟨φ, ρ, S, hS, hE, hp⟩ => hp φ H σ Ext.refl hS hE
theorem is_brk : IS B k N sc (.Break pos) (fun ρ S => .ok (.bk, ρ) S) := fun X s => PS.imp ps_break fun D σ H ⟨φ, ρ, S, hS, hE, hp⟩ => hp φ H σ Ext.refl hS hE
theorem is_cnt : IS B k N sc (.Continue pos) (fun ρ S => .ok (.ct, ρ) S) := fun X s => PS.imp ps_continue fun D σ H ⟨φ, ρ, S, hS, hE, hp⟩ => hp φ H σ Ext.refl hS hE
theorem is_ret {m : Env → Sto → R T} (h : IE B k N sc e m) : IS B k N sc (.Return (some e) pos) (fun ρ S => (m ρ S).bind fun v S => .ok (.rt v, ρ) S) := fun X s =>
  PS.imp (ps_ret (h X s)) fun D σ H ⟨φ, ρ, S, hS, hE, hp⟩ => ⟨φ, ρ, S, hS, hE, hp.bind fun t S1 φ1 H1 v _ e1 hS1 rv hp1 => hp1 φ1 H1 v Ext.refl hS1 rv⟩
theorem is_retN : IS B k N sc (.Return none pos) (fun ρ S => .ok (.rt .non, ρ) S) := fun X s => PS.imp ps_retN fun D σ H ⟨φ, ρ, S, hS, hE, hp⟩ => hp φ H _ Ext.refl hS .non
theorem is_if {c : Expr} {a b : List Stmt} {mc : Env → Sto → R Bool} {ma mb : Env → Sto → R (Fl × Env)} (hc : IT B k N sc c mc) (ha : ISs B k N sc a ma) (hb : ISs B k N sc b mb) :
    IS B k N sc (.If c a b pos) (fun ρ S => (mc ρ S).bind fun k S => if k then ma ρ S else mb ρ S) := fun X s => by
  refine PS.imp (ps_if (hc X s) (ha X s) (hb X s)) fun D σ H ⟨φ, ρ, S, hS, hE, hp⟩ => ⟨φ, ρ, S, hS, hE, hp.bind fun c S1 φ1 H1 v _ e1 hS1 rv hp1 => ?_⟩
  cases rv
  cases c with
  | true => exact ⟨φ1, ρ, S1, hS1, hE.ext e1, hp1⟩
  | false => exact ⟨φ1, ρ, S1, hS1, hE.ext e1, hp1⟩
theorem assign1 {tg : Expr} {env : PySem.Env} (h : isStar tg = false) : (assignEach [tg] env).map (·.2) = [assign tg env] := by
  cases tg <;> first | rfl | (cases h)
theorem is_asg {tg : Expr} {g : Tg} {m : Env → Sto → R T} (hns : isStar tg = false) (h : IE B k N sc e m) (hg : IG B k N sc tg g) (hs : ∀ env, swapsWithSole [tg] e pos.line env = pure false) (hw : ∀ env, swappedStores [tg] e env = pure none) :
    IS B k N sc (.Assign [tg] e pos) (fun ρ S => (m ρ S).bind fun v S => (R.opt (tgt g v ρ S) S).bind fun ρ S => .ok (.nx, ρ) S) := fun X s => by
  refine PS.imp (ps_asg (h X s) (hg X s) (hs _) (hw _) (h1 := assign1 hns)) fun D σ H ⟨φ, ρ, S, hS, hE, hp⟩ => ⟨φ, ρ, S, hS, hE, hp.bind fun t S1 φ1 H1 v _ e1 hS1 rv hp1 => ?_⟩
  obtain ⟨ρ', ht, hp2⟩ := hp1.opt
  exact ⟨B.hid, φ1, ρ, S1, t, ρ', hS1, hE.ext e1, rv, ht, fun σ' rσ _ => hp2 φ1 H1 σ' Ext.refl hS1 rσ⟩
/-- name = [..] on one line, the name a local -/
theorem is_asgC {y : Str} {i : Nat} {py lp : Pos} {tg elt iter : Expr} {ifs : List Expr} {scope : Scope} {own : List (Str × Nat)} {g : Tg} {mi : Env → Sto → R (List T × Option Nat)} {mc : Env → Sto → R Bool} {me : Env → Sto → R T} (hkind : sc.kind = .function) (hN : N[i]? = some y) (hl : sc.names.lookup y = some .local)
    (hline : (py.line == lp.line) = true) (hno : (scope.names.any fun (n, k) => n == y && (k == .local || k == .cell)) = false) (hi : II B k N sc tg iter mi) (ok : BlkOk N sc.toScope scope own)
    (hg : IG B k N (sc.blk scope) tg g) (hix : ∀ i ∈ g.ix, i ∈ own.map (·.2)) (ht : ∀ ψ, ITs (B.wi ψ) k N (sc.blk scope) ifs mc) (he : ∀ ψ, IE (B.wi ψ) k N (sc.blk scope) elt me) (hs : ∀ env x, foldedSetIterable iter env x = pure x) :
    IS B k N sc (.Assign [.Name y py] (.ListComp elt [⟨tg, iter, ifs, 0⟩] scope lp) pos) (fun ρ S => ((mi ρ S).bind fun xl S => compL xl.2 S (fun x S1 => (R.opt (tgt g x (wipe ρ (own.map (·.2))) S1) S1).bind fun ρ1 S1 =>
      (mc ρ1 S1).bind fun k S1 => if k then (me ρ1 S1).bind fun v S1 => .ok (some v) S1 else .ok none S1) xl.1 [] S).bind fun xs S => .ok (.nx, ρ.set i (some (.vl xs))) S) := fun X s => by
  refine PS.imp (ps_setLc s.calm (by rw [s.hN]; exact s.nd) (by rw [s.hN]; exact hN) (by rw [s.hsc]; exact hl) (sw_true (by rw [s.hsc]; exact hkind) (by rw [s.hsc]; exact hl) hline hno) (hi X s) (by rw [s.hN, s.hsc]; exact ok) (fun s' H C cl fp => hg _ (s.blk scope s' H C cl fp))
    (fun s' H C cl fp => ex_t fun ψ => ht ψ _ ((s.blk scope s' H C cl fp).wi ψ)) (fun s' H C cl fp => ex_e fun ψ => he ψ _ ((s.blk scope s' H C cl fp).wi ψ)) (hs X.env)) fun D σ H ⟨φ, ρ, S, hS, hE, hp⟩ => ?_
  refine comp_read hix σ H _ ⟨φ, ρ, S, hS, hE, hp.bind fun xs S1 φ1 H1 vs _ e1 hS1 rv hp1 p hn => ?_⟩
  exact hp1 φ1 _ _ (Ext.upd hn) (hS1.upd hn) (((hE.ext e1).ext (Ext.upd hn)).set i (.vl upd_same ⟨hS1.nin hn, hS1.ninH hn⟩ (rv.ext (Ext.upd hn))))
/-- x, *xs = a tuple -/
theorem is_star {x y : Str} {i j q : Nat} {px py ps pt : Pos} {m : Env → Sto → R T} (hi : N[i]? = some x) (hx : mayStore sc x = true) (hj : N[j]? = some y) (hy : mayStore sc y = true) (h : IE B k N sc e m)
    (hs : ∀ env, swapsWithSole [.Tuple [.Name x px, .Starred (.Name y py) ps] q pt] e pos.line env = pure false) (hw : ∀ env, swappedStores [.Tuple [.Name x px, .Starred (.Name y py) ps] q pt] e env = pure none) :
    IS B k N sc (.Assign [.Tuple [.Name x px, .Starred (.Name y py) ps] q pt] e pos) (fun ρ S => (m ρ S).bind fun v S => (match v with
    | .tup (x :: xs) => if xs.length ≤ 1000000 then .ok (.nx, (ρ.set i (some x)).set j (some (.vl xs))) S else .bad
    | _ => .bad)) := fun X s => by
  refine PS.imp (ps_asg (h X s) (pg_star s hi hx hj hy) (hs _) (hw _) (h1 := assign1 rfl)) fun D σ H ⟨φ, ρ, S, hS, hE, hp⟩ => ⟨φ, ρ, S, hS, hE, hp.bind fun t S1 φ1 H1 v _ e1 hS1 rv hp1 => ?_⟩
  cases t with
  | tup ts =>
    cases ts with
    | nil => exact hp1.elim
    | cons u us =>
      simp only at hp1
      split at hp1
      · rename_i hl
        obtain ⟨a, vs, rfl, h3, h4⟩ := seen_tup (S := S1) rv rfl
        cases h4 with
        | cons r1 rr =>
          rw [s.hK]
          refine ⟨a, _, _, rfl, h3, by rw [rr.length]; exact hl, fun p hn => ?_⟩
          exact hp1 φ1 _ _ (Ext.upd hn) (hS1.upd hn) ((((hE.ext e1).ext (Ext.upd hn)).set i (r1.ext (Ext.upd hn))).set j (.vl upd_same ⟨hS1.nin hn, hS1.ninH hn⟩ (rr.ext (Ext.upd hn))))
      · exact hp1.elim
  | _ => exact hp1.elim
/-- o[i] = e of a list of the store -/
theorem is_set {o i : Expr} {p : Pos} {m mo mi : Env → Sto → R T} (he : IE B k N sc e m) (ho : IE B k N sc o mo) (hi : IE B k N sc i mi) (hs : ∀ env, swapsWithSole [.Subscript o i p] e pos.line env = pure false) (hw : ∀ env, swappedStores [.Subscript o i p] e env = pure none)
    (hpl : ∀ f as ks q, i ≠ .Slice f as ks q) :
    IS B k N sc (.Assign [.Subscript o i p] e pos) (fun ρ S => (m ρ S).bind fun v S => (mo ρ S).bind fun x S => (mi ρ S).bind fun y S => (match x, y with
    | .loc l, .int j => (match S[l]? with
      | some (.lst xs) => (match ixN xs.length j with
        | some k => .ok (.nx, ρ) (S.set l (.lst (xs.set k v)))
        | none => .bad)
      | _ => .bad)
    | _, _ => .bad)) := fun X s => by
  refine PS.imp (ps_asg (he X s) (pg_sub (ho X s) (hi X s) set_list (by intro v; cases i <;> first | rfl | exact absurd rfl (hpl _ _ _ _))) (hs _) (hw _) (h1 := rfl)) fun D σ H ⟨φ, ρ, S, hS, hE, hp⟩ => ⟨φ, ρ, S, hS, hE, hp.bind fun t S1 φ1 H1 v _ e1 hS1 rv hp1 => ?_⟩
  refine ⟨φ1, ρ, S1, hS1, hE.ext e1, hp1.bind fun x S2 φ2 H2 xv _ e2 hS2 rx hp2 => ?_⟩
  refine ⟨φ2, ρ, S2, hS2, hE.ext (e1.trans e2), hp2.bind fun y S3 φ3 H3 yv _ e3 hS3 ry hp3 => ?_⟩
  cases x with
  | loc l =>
    cases y with
    | int j =>
      cases ry
      have rx' := rx.ext e3
      cases rx' with
      | @loc a _ hφ =>
        simp only at hp3
        cases eS : S3[l]? with
        | none => rw [eS] at hp3; exact hp3.elim
        | some ob =>
          rw [eS] at hp3
          cases ob with
          | lst xs =>
            simp only at hp3
            obtain ⟨ho', hH, hO⟩ := hS3.obj l a _ hφ eS
            cases hO with
            | @lst vs _ q =>
              cases ei : ixN xs.length j with
              | none => rw [ei] at hp3; exact hp3.elim
              | some kk =>
                rw [ei] at hp3
                refine ⟨a, vs, j, kk, rfl, rfl, hH, by rw [q.length]; exact ei, ?_⟩
                have ew := Ext.write (o := .lst (vs.set kk v)) (H := H3) (List.mem_of_getElem? hφ)
                exact hp3 φ3 _ _ ew (hS3.write hφ (.lst (q.set kk ((rv.ext e2).ext e3)))) (((hE.ext (e1.trans (e2.trans e3))).ext ew))
          | _ => exact hp3.elim
    | _ => exact hp3.elim
  | _ => cases y <;> exact hp3.elim
/-- a, b = x, y -/
theorem swap2 {env : PySem.Env} {x y : Str} {px py pt pt2 : Pos} {a b : Expr} {kt k2 : Nat} (hk : env.scope.kind = .function) (hx : env.scope.names.lookup x = some .local) (hy : env.scope.names.lookup y = some .local) (hl : (py.line == px.line) = true) (hne : x ≠ y)
    (hs1 : isStar a = false) (hs2 : isStar b = false) (hf : [a, b].all (foldedForSure 8) = false) (hc : [a, b].all (constantsAlone 8) = false) :
    swappedStores [.Tuple [.Name x px, .Name y py] kt pt] (.Tuple [a, b] k2 pt2) env = pure (some [x, y]) := by
  have kx : env.kindOf x = some .local := hx
  have ky : env.kindOf y = some .local := hy
  have hb : env.blockKind = .function := by unfold Env.blockKind; rw [hk]; rfl
  have hyx : (y == x) = false := by rw [beq_eq_false_iff_ne]; exact fun z => hne z.symm
  have hd : ([x, y] : List Str).eraseDups.length = 2 := by
    rw [List.eraseDups_cons]
    simp [hyx, List.eraseDups_cons]
  have hd' : ([x, y] : List Str).eraseDups = [x, y] := by
    rw [List.eraseDups_cons]
    simp [hyx, List.eraseDups_cons]
  rw [List.all_cons, List.all_cons, List.all_nil, Bool.and_true] at hf hc
  unfold swappedStores
  simp only [hb, kx, ky, hl, Expr.pos, List.length_cons, List.length_nil, List.head?_cons, Option.map_some, Option.getD_some, List.filterMap_cons, List.filterMap_nil, beq_self_eq_true, List.any_cons, List.any_nil, List.all_cons, List.all_nil, Bool.and_true, Bool.or_false, if_true, hf, hc]
  refine (if_neg (by decide)).trans ((if_neg ?_).trans ((if_neg ?_).trans rfl))
  · intro z
    rw [Bool.or_eq_true] at z
    rcases z with z | z
    · cases a <;> first | (cases z; done) | (cases hs1; done)
    · cases b <;> first | (cases z; done) | (cases hs2; done)
  · show ¬ ((2 != 2 || ([x, y] : List Str).eraseDups.length != 2) = true)
    rw [hd]
    decide
theorem is_par2 {i j : Nat} {x y : Str} {px py pt pt2 : Pos} {a b : Expr} {kt k2 : Nat} {ma mb : Env → Sto → R T} (hkind : sc.kind = .function) (hi : N[i]? = some x) (hj : N[j]? = some y) (hij : i ≠ j) (hx : sc.names.lookup x = some .local) (hy : sc.names.lookup y = some .local) (hl : (py.line == px.line) = true) (hne : x ≠ y)
    (hs1 : isStar a = false) (hs2 : isStar b = false) (hf : [a, b].all (foldedForSure 8) = false) (hc : [a, b].all (constantsAlone 8) = false) (ha : IE B k N sc a ma) (hb : IE B k N sc b mb) :
    IS B k N sc (.Assign [.Tuple [.Name x px, .Name y py] kt pt] (.Tuple [a, b] k2 pt2) pos) (fun ρ S => (ma ρ S).bind fun u S => (mb ρ S).bind fun v S => .ok (.nx, (ρ.set i (some u)).set j (some v)) S) := fun X s => by
  refine PS.imp (ps_par s.calm (by rw [s.hN]; exact s.nd) (by rw [s.hN]; exact hi) (by rw [s.hN]; exact hj) hij (by rw [s.hsc]; exact hx) (by rw [s.hsc]; exact hy) (pa_cons (ha X s) (pa_cons (hb X s) pa_nil (star_head hs2)) (star_head hs1))
    (swap2 (by rw [s.hsc]; exact hkind) (by rw [s.hsc]; exact hx) (by rw [s.hsc]; exact hy) hl hne hs1 hs2 hf hc)) fun D σ H ⟨φ, ρ, S, hS, hE, hp⟩ => ?_
  refine ⟨φ, ρ, S, hS, hE, hp.bind fun u S1 φ1 H1 v _ e1 hS1 rv hp1 => ?_⟩
  refine ⟨φ1, ρ, S1, hS1, hE.ext e1, hp1.bind fun u2 S2 φ2 H2 v2 _ e2 hS2 rv2 hp2 => ?_⟩
  exact ⟨v, v2, rfl, hp2 φ2 H2 _ Ext.refl hS2 (((hE.ext (e1.trans e2)).set i (rv.ext e2)).set j rv2)⟩
/-- loops -/
theorem is_while {c : Expr} {body : List Stmt} {mc : Env → Sto → R Bool} {mb : Env → Sto → R (Fl × Env)} {W : Nat} (hc : IT B k N sc c mc) (hb : ISs B k N sc body mb) (hpo : ∀ X : Cx, Sit B k N sc X → PassesOwn (model X.prog X.w) X.A X.env X.xe) :
    IS B k N sc (.While c body [] pos) (fun ρ S => whlN mc mb W ρ S) := fun X s => by
  refine PS.imp (ps_while (hpo X s) (hc X s) (hb X s)) fun D σ H ⟨φ, ρ, S, hS, hE, hp⟩ => ?_
  refine ⟨fun m σ' H' => ∃ φ' ρ' S', RelS B.K B.mg B.hid φ' S' H' ∧ RelE B.K B.mg B.hid φ' H' ρ' σ' ∧ PostS B φ' H' (whlN mc mb m ρ' S') D, ⟨W, φ, ρ, S, hS, hE, hp⟩, ?_⟩
  rintro m σ' H' ⟨φ', ρ', S', hS', hE', hp'⟩
  cases m with
  | zero => exact hp'.elim
  | succ m =>
    refine ⟨φ', ρ', S', hS', hE', hp'.bind fun c S1 φ1 H1 v _ e1 hS1 rv hp1 => ?_⟩
    cases rv
    cases c with
    | false => exact hp1 φ1 H1 σ' Ext.refl hS1 (hE'.ext e1)
    | true =>
      simp only [if_true] at hp1 ⊢
      refine ⟨fun σ2 H2 => ∃ φ2 ρ2 S2, RelS B.K B.mg B.hid φ2 S2 H2 ∧ RelE B.K B.mg B.hid φ2 H2 ρ2 σ2 ∧ PostS B φ2 H2 (whlN mc mb m ρ2 S2) D, fun σ2 H2 h => ⟨m, Nat.lt_succ_self m, h⟩, φ1, ρ', S1, hS1, hE'.ext e1, ?_⟩
      cases hm : mb ρ' S1 with
      | bad => simp only [hm, R.bind] at hp1; exact hp1.elim
      | exc => simp only [hm, R.bind] at hp1; exact hp1.elim
      | ok r S2 =>
        obtain ⟨f, ρ2⟩ := r
        simp only [hm, R.bind_ok] at hp1
        cases f with
        | nx => exact fun φ2 H2 σ2 x r' e' => ⟨φ2, ρ2, S2, r', e', PostS.later (r := whlN mc mb m ρ2 S2) hp1 x⟩
        | ct => exact fun φ2 H2 σ2 x r' e' => ⟨φ2, ρ2, S2, r', e', PostS.later (r := whlN mc mb m ρ2 S2) hp1 x⟩
        | bk => exact hp1
        | rt v => exact hp1
theorem is_for {tg iter : Expr} {body : List Stmt} {g : Tg} {mi : Env → Sto → R (List T × Option Nat)} {mb : Env → Sto → R (Fl × Env)} (hi : II B k N sc tg iter mi) (hg : IG B k N sc tg g) (hb : ISs B k N sc body mb) (hpo : ∀ X : Cx, Sit B k N sc X → PassesOwn (model X.prog X.w) X.A X.env X.xe)
    (hs : ∀ env x, foldedSetIterable iter env x = pure x) : IS B k N sc (.For tg iter body [] pos) (fun ρ S => (mi ρ S).bind fun xl S => forL xl.2 S (fun x ρ S => (R.opt (tgt g x ρ S) S).bind fun ρ S => mb ρ S) xl.1 ρ S) := fun X s => by
  refine PS.imp (ps_for (hpo X s) s.calm (hi X s) (hg X s) (hb X s) (hs _)) fun D σ H ⟨φ, ρ, S, hS, hE, hp⟩ => ?_
  cases hx : mi ρ S with
  | bad => simp only [hx, R.bind] at hp; exact hp.elim
  | exc => simp only [hx, R.bind] at hp; exact hp.elim
  | ok xl S1 =>
    obtain ⟨xs, l⟩ := xl
    simp only [hx, R.bind_ok] at hp
    refine ⟨φ, ρ, S, hS, hE, ?_⟩
    rw [hx]
    intro φ1 H1 J e1 hS1 hJ
    generalize hbd : (fun x ρ S => (R.opt (tgt g x ρ S) S).bind fun ρ S => mb ρ S) = bd at hp
    refine ⟨fun i m σ' H' => ∃ φ' ρ' S', Ext φ1 H1 φ' H' ∧ RelS B.K B.mg B.hid φ' S' H' ∧ RelE B.K B.mg B.hid φ' H' ρ' σ' ∧ stays l S1 S' ∧ i ≤ xs.length ∧ m = xs.length - i ∧ PostS B φ' H' (forL l S1 bd (xs.drop i) ρ' S') D,
      ⟨xs.length, φ1, ρ, S1, Ext.refl, hS1, hE.ext e1, by cases l <;> first | exact rfl | exact True.intro, Nat.zero_le _, rfl, hp.later e1⟩, ?_⟩
    rintro i m σ' H' ⟨φ', ρ', S', x', r', re', st, hi, rfl, hq⟩
    have hwk := hJ B.hid φ' S' H' (fun a ha => .inl ha) x'.w r' st i
    by_cases hlt : i < xs.length
    · right
      obtain ⟨hgo, hy⟩ := hwk.1 xs[i] (List.getElem?_eq_getElem hlt)
      refine ⟨hgo, fun σ2 H2 => ∃ φ' ρ' S', Ext φ1 H1 φ' H2 ∧ RelS B.K B.mg B.hid φ' S' H2 ∧ RelE B.K B.mg B.hid φ' H2 ρ' σ2 ∧ stays l S1 S' ∧ PostS B φ' H2 (forL l S1 bd (xs.drop (i + 1)) ρ' S') D, ?_, ?_⟩
      · rintro σ2 H2 ⟨φ2, ρ2, S2, a1, a2, a3, a4, a5⟩
        exact ⟨xs.length - (i + 1), by omega, φ2, ρ2, S2, a1, a2, a3, a4, by omega, rfl, a5⟩
      · intro x H2 hyl
        obtain ⟨y1, y2, y3⟩ := hy x H2 hyl
        rw [List.drop_eq_getElem_cons hlt] at hq
        unfold forL at hq
        rw [← hbd] at hq
        simp only at hq
        rw [hbd] at hq
        cases ht2 : tgt g xs[i] ρ' S' with
        | none => rw [ht2] at hq; exact hq.elim
        | some ρ1 =>
          simp only [ht2, R.opt_some, R.bind_ok] at hq
          refine ⟨B.hid, φ', ρ', S', xs[i], ρ1, y2, re'.ext y1, y3, ht2, fun σ1 rσ _ => ⟨φ', ρ1, S', y2, rσ, ?_⟩⟩
          cases hm : mb ρ1 S' with
          | bad => simp only [hm, R.bind] at hq; exact hq.elim
          | exc => simp only [hm, R.bind] at hq; exact hq.elim
          | ok r S3 =>
            obtain ⟨f, ρ3⟩ := r
            simp only [hm, R.bind_ok] at hq
            cases f with
            | nx =>
              simp only at hq
              split at hq
              · rename_i hst
                exact fun φ3 H3 σ3 x3 r3 e3 => ⟨φ3, ρ3, S3, x'.trans (y1.trans x3), r3, e3, hst, PostS.later hq (y1.trans x3)⟩
              · exact hq.elim
            | ct =>
              simp only at hq
              split at hq
              · rename_i hst
                exact fun φ3 H3 σ3 x3 r3 e3 => ⟨φ3, ρ3, S3, x'.trans (y1.trans x3), r3, e3, hst, PostS.later hq (y1.trans x3)⟩
              · exact hq.elim
            | bk => exact fun φ3 H3 σ3 x3 r3 e3 => hq φ3 H3 σ3 (y1.trans x3) r3 e3
            | rt v => exact fun φ3 H3 w x3 r3 e3 => hq φ3 H3 w (y1.trans x3) r3 e3
    · left
      refine ⟨hwk.2 (Nat.le_of_not_lt hlt), ?_⟩
      rw [List.drop_eq_nil_of_le (Nat.le_of_not_lt hlt)] at hq
      exact hq φ' H' σ' Ext.refl r' re'
end
end Px
end
section
set_option linter.all false
set_option maxRecDepth 100000
/-! Px12: calls of the text's own functions. -/
namespace Px
open PySem PySem.Spec PyProof.Rows L2

/-! ### what a call made is let go -/
section
variable {K : PySem.W.Frag} {mg : Str → Option Value} {ψ φ φ' : List Addr} {H : Hp}
mutual
theorem Rep.bel : ∀ {v : V} {t : T}, Rep K mg ψ φ H v t → t.bel φ.length = true
  | _, _, .non => rfl
  | _, _, .bl b => rfl
  | _, _, .int i => rfl
  | _, _, .str x => rfl
  | _, _, .tup h r => Reps.bel r
  | _, _, .scr h r => Reps.bel r
  | _, _, .vl h n r => Reps.bel r
  | _, _, .vd0 h n => rfl
  | _, _, .vd h z n r q => Bool.and_eq_true_iff.mpr ⟨Reps.bel r, Reps.bel q⟩
  | _, _, .loc h => decide_eq_true (List.getElem?_eq_some_iff.mp h).1
  | _, _, .ty n => rfl
  | _, _, .gl h => rfl
theorem Reps.bel : ∀ {vs : List V} {ts : List T}, Reps K mg ψ φ H vs ts → T.belL φ.length ts = true
  | _, _, .nil => rfl
  | _, _, .cons h r => Bool.and_eq_true_iff.mpr ⟨Rep.bel h, Reps.bel r⟩
end
theorem RepO.bel {ho : HO} {o : Ob} (h : RepO K mg ψ φ H ho o) : o.bel φ.length = true := by
  cases h with
  | lst r => exact r.bel
  | dct r q => exact Bool.and_eq_true_iff.mpr ⟨r.bel, q.bel⟩
  | ins c n r => exact r.bel
mutual
theorem Rep.fore (p : φ <+: φ') : ∀ {v : V} {t : T}, Rep K mg ψ φ' H v t → t.bel φ.length = true → Rep K mg ψ φ H v t
  | _, _, .non, _ => .non
  | _, _, .bl b, _ => .bl b
  | _, _, .int i, _ => .int i
  | _, _, .str x, _ => .str x
  | _, _, .tup h r, b => .tup (h.imp (fun ⟨a, c, d⟩ => ⟨a, fun z => c (p.subset z), d⟩) id) (Reps.fore p r b)
  | _, _, .scr h r, b => .scr (h.imp (fun ⟨a, c, d⟩ => ⟨a, fun z => c (p.subset z), d⟩) id) (Reps.fore p r b)
  | _, _, .vl h n r, b => .vl h ⟨fun z => n.1 (p.subset z), n.2⟩ (Reps.fore p r b)
  | _, _, .vd0 h n, _ => .vd0 h ⟨fun z => n.1 (p.subset z), n.2⟩
  | _, _, .vd h z n r q, b => .vd h z ⟨fun z => n.1 (p.subset z), n.2⟩ (Reps.fore p r (Bool.and_eq_true_iff.mp b).1) (Reps.fore p q (Bool.and_eq_true_iff.mp b).2)
  | _, _, .loc (l := l) h, b => .loc (by
      obtain ⟨r, rfl⟩ := p
      rw [List.getElem?_append_left (of_decide_eq_true (show decide (l < φ.length) = true from b))] at h
      exact h)
  | _, _, .ty n, _ => .ty n
  | _, _, .gl h, _ => .gl h
theorem Reps.fore (p : φ <+: φ') : ∀ {vs : List V} {ts : List T}, Reps K mg ψ φ' H vs ts → T.belL φ.length ts = true → Reps K mg ψ φ H vs ts
  | _, _, .nil, _ => .nil
  | _, _, .cons h r, b => .cons (Rep.fore p h (Bool.and_eq_true_iff.mp b).1) (Reps.fore p r (Bool.and_eq_true_iff.mp b).2)
end
theorem RepO.fore (p : φ <+: φ') {ho : HO} {o : Ob} (h : RepO K mg ψ φ' H ho o) (b : o.bel φ.length = true) : RepO K mg ψ φ H ho o := by
  cases h with
  | lst r => exact .lst (r.fore p b)
  | dct r q => exact .dct (r.fore p (Bool.and_eq_true_iff.mp b).1) (q.fore p (Bool.and_eq_true_iff.mp b).2)
  | ins c n r => exact .ins c n (r.fore p b)
end
section
variable {B : Base}
theorem gc_post {φ φ' : List Addr} {H H' : Hp} {S S' : Sto} {u : V} {v : T} {Q : VK} (hS : RelS B.K B.mg B.hid φ S H) (x : Ext φ H φ' H') (hS' : RelS B.K B.mg B.hid φ' S' H') (hv : B.rep φ' H' u v) (hp : Post B B.rep φ H (gc S v S') Q) : Q u H' := by
  unfold gc at hp
  split at hp
  · rename_i hc
    have ex : Ext φ H φ H' := ⟨List.prefix_rfl, x.keep, fun _ a b => absurd a b⟩
    have hl := hS.len
    have hR : RelS B.K B.mg B.hid φ (S'.take S.length) H' := by
      refine ⟨by rw [List.length_take]; omega, hS.nd, fun b hb => ⟨fun z => (hS'.hid b hb).1 (x.pre.subset z), (hS'.hid b hb).2⟩, hS'.sys, fun i a o ha ho => ?_⟩
      have hi : i < S.length := by rw [← hl]; exact (List.getElem?_eq_some_iff.mp ha).1
      rw [List.getElem?_take_of_lt hi] at ho
      obtain ⟨ho', h1, h2⟩ := hS'.obj i a o (prefix_get x.pre ha) ho
      refine ⟨ho', h1, h2.fore x.pre ?_⟩
      rw [hl]
      rcases hc.1 i hi with e | ⟨o', e, hb⟩
      · rw [ho] at e
        obtain ⟨ho2, _, h3⟩ := hS.obj i a o ha e.symm
        have := h3.bel
        rw [hl] at this
        exact this
      · rw [ho] at e; cases e; exact hb
    split at hp
    · rename_i hb
      exact hp φ H' u ex hR (hv.fore x.pre (by rw [hl]; exact hb))
    · rename_i hb
      split at hp
      · rename_i l
        split at hp
        · rename_i xs hx
          split at hp
          · rename_i hb2
            cases hv with
            | @loc a _ h =>
              obtain ⟨ho, h1, h2⟩ := hS'.obj l a _ h hx
              cases h2 with
              | @lst vs _ q =>
                refine hp φ H' _ ex hR (.vl h1 ⟨fun z => ?_, fun z => (hS'.hid a z).1 (List.mem_of_getElem? h)⟩ (q.fore x.pre (by rw [hl]; exact hb2)))
                obtain ⟨j, hj⟩ := List.getElem?_of_mem z
                have hj' := prefix_get x.pre hj
                have hjl := (List.getElem?_eq_some_iff.mp hj).1
                obtain ⟨a1, b1⟩ := List.getElem?_eq_some_iff.mp hj'
                obtain ⟨a2, b2⟩ := List.getElem?_eq_some_iff.mp h
                have ejl : j = l := (List.getElem_inj hS'.nd).mp (b1.trans b2.symm)
                apply hb
                show decide (l < S.length) = true
                exact decide_eq_true (by omega)
          · exact hp.elim
        · exact hp.elim
      · exact hp.elim
  · exact hp.elim

/-! ### a function keeps its promise -/
structure FnG (B : Base) (tab : Str → Option Fn) (W n : Nat) (fn : Fn) (fa : Addr) (fd : FuncData) : Prop where
  run : ∀ (ψ : List Addr) (A : Around) (outer : List PySem.Env) (s : Shared) (H : Hp) (args : Args) (us : List Value) (vs : List V) (φ : List Addr) (S : Sto) (ts : List T) (Q : VK), Room n A → A.guards = some [] →
    Env0 B.P B.w B.K B.mg B.base A outer s H → BindsTo s fd args (fn.ps.zip us) → Vals vs us → RelS B.K B.mg ψ φ S H → Reps B.K B.mg ψ φ H vs ts → ts.length = fn.ps.length → Post (B.wi ψ) (B.wi ψ).rep φ H (runF tab W n fn ts S) Q →
    codeAny (model B.P B.w) A (.call (.ref fa) args) (CR CX0 outer B.P B.w H s Q E0) s
theorem FnG.zero {tab : Str → Option Fn} {W : Nat} {fn : Fn} {fa : Addr} {fd : FuncData} : FnG B tab W 0 fn fa fd := ⟨fun ψ A outer s H args us vs φ S ts Q _ _ _ _ _ _ _ _ hp => hp.elim⟩
theorem start_rel {φ : List Addr} {H : Hp} {N : List Str} {vs : List V} {ts : List T} (h : B.reps φ H vs ts) (n : Nat) (hn : n = N.length) : RelE B.K B.mg B.hid φ H (ts.map some ++ List.replicate (n - ts.length) none) (L2.start N vs) := by
  unfold L2.start
  subst hn
  have hl := h.length
  refine ⟨by simp [hl], fun i t ht => ?_⟩
  by_cases hi : i < ts.length
  · rw [List.getElem?_append_left (by simpa using hi), List.getElem?_map] at ht
    obtain ⟨t', h1, h2⟩ := Option.map_eq_some_iff.mp ht
    cases h2
    obtain ⟨v, h3, h4⟩ := h.get h1
    refine ⟨v, ?_, h4⟩
    rw [List.getElem?_append_left (by simp; omega), List.getElem?_map, h3]
    rfl
  · rw [List.getElem?_append_right (by simp; omega), List.getElem?_replicate] at ht
    split at ht <;> cases ht
theorem deeper_guards {A : Around} {env : PySem.Env} : (A.deeper env).guards = A.guards := by
  first | rfl | simp [Around.deeper]
theorem FnG.succ {tab : Str → Option Fn} {W n : Nat} {fn : Fn} {f : Addr} {x qual : Str} {st : Stmt} {fd : FuncData} {N : List Str} {m : Env → Sto → R (Fl × Env)} (F : Fun B.K x qual st f fd) (hS : FnScope N fn.ps (defScope st)) (hn : fn.n = N.length)
    (hm : ∀ ρ S, execs ⟨callN tab W n, W⟩ fn.body ρ S = m ρ S) (hb : ∀ ψ, ISs (B.wi ψ) n N { defScope st with own := fun _ => true } (defBody st) m) : FnG B tab W (n + 1) fn f fd := by
  obtain ⟨oc, od, kV, doc, pm, an, cdv, ct, osl, rfl, lk, hcd⟩ := F.ex
  refine ⟨fun ψ A outer s H args us vs φ S ts Q hr hg e0 hbd rv rS rts hlen hp => ?_⟩
  have hlv : vs.length = fn.ps.length := rts.length.trans hlen
  have KX : B.K.In s.heap := e0.mod.kin.keeps fun b o e => (e0.bs b o e).1
  have lim : s.heap.NoLimit := e0.mod.nolimit.keeps fun b o e => (e0.bs b o e).1
  have hkind : ∀ y ∈ fn.ps.zip us, (defScope st).names.lookup y.1 = some .local ∨ ((defScope st).names.lookup y.1 = some .cell ∧ ((cellsFrom (s.heap.objs.size + 1) (defScope st).names []).lookup y.1).isSome = true) := fun y hy => by
    have hy' : y.1 ∈ fn.ps := by
      obtain ⟨a, b⟩ := y
      exact (List.of_mem_zip hy).1
    exact (hS.par y.1 hy').imp id fun q => ⟨q, PySem.W.cellsFrom_some _ _ _ (.inl q)⟩
  refine codeAny_call_function hr.depth (KX _ _ lk) rfl hS.co hS.gen rfl (PySem.W.codeRec_of KX hcd) (hbd _ _ _ _ ?_)
  refine wpAny_newFunctionEnv_cells hS.kind hkind fun env he s1 z => ?_
  cases he
  refine ⟨lim.keeps z.toInCall.keep, codeAny_func ?_⟩
  have I := inv_start (CX := CX0) (cd := cdv) (E := E0) hS hr.hd e0 hlv rv z
  have hsit : Sit (B.wi ψ) n N { defScope st with own := fun _ => true } (cxOf CX0 B.P B.w B.K B.mg B.base N qual (defScope st) f cdv A outer s H E0).nox := ⟨rfl, rfl, rfl, rfl, rfl, rfl, hS.nd, rfl, fun _ _ => rfl, rfl, hr.deeper _, deeper_guards.trans hg, rfl⟩
  have hq : tS (B.wi ψ) m { nx := fun _ H' => Q .non H', rt := Q } (L2.start N vs) H := by
    refine ⟨φ, ts.map some ++ List.replicate (fn.n - ts.length) none, S, rS, start_rel (B := B.wi ψ) rts _ hn, ?_⟩
    unfold runF fin at hp
    simp only [hm] at hp
    cases hr2 : m (ts.map some ++ List.replicate (fn.n - ts.length) none) S with
    | bad => simp only [hr2, R.bind] at hp; exact hp.elim
    | exc => simp only [hr2, R.bind] at hp; exact hp.elim
    | ok r S' =>
      obtain ⟨fl, ρ'⟩ := r
      simp only [hr2, R.bind_ok] at hp
      cases fl with
      | nx =>
        intro φ' H' σ' x' r' _
        simp only at hp
        split at hp
        · exact hp φ' H' _ x' r' .non
        · exact gc_post (B := B.wi ψ) rS x' r' .non hp
      | rt t =>
        intro φ' H' u x' r' ru
        simp only at hp
        split at hp
        · exact hp φ' H' _ x' r' ru
        · exact gc_post (B := B.wi ψ) rS x' r' ru hp
      | bk => exact hp.elim
      | ct => exact hp.elim
  refine wpAny_mono (((hb ψ) _ hsit).nox.run [] s1 _ H _ I hq) (fun fl s' hs => ?_) fun e s' hs => hs
  have fin' : ∀ {σ' : L2.St} {H' : Hp} {v : V} {u : Value}, Inv (cxOf CX0 B.P B.w B.K B.mg B.base N qual (defScope st) f cdv A outer s H E0) [] σ' H' s' → RelV v u → Q v H' → CE outer B.P B.w H s Q u s' :=
    fun J rv' q => ⟨_, _, J.os, J.bare, J.base, J.hok, rv', q⟩
  cases fl with
  | ret u => obtain ⟨v, σ', H', J, rv', q⟩ := hs; exact fin' J rv' q
  | next => obtain ⟨σ', H', J, q⟩ := hs; exact fin' (v := V.non) (u := Value.none) J rfl q
  | brk => obtain ⟨_, _, _, q⟩ := hs; exact q.elim
  | cont => obtain ⟨_, _, _, q⟩ := hs; exact q.elim
end
end Px
namespace Px
open PySem PySem.Spec PyProof.Rows L2
section
variable {B : Base} {k : Nat} {N : List Str} {sc : Scp} {e : Expr} {es : List Expr} {pos : Pos}
/-- how a call's arguments are bound: a of them by place, the others by their names ks -/
def BindOk (fd : FuncData) (ps : List Str) (a : Nat) (ks : List Str) : Prop := ∀ (us ws : List Value), us.length = a → ws.length = ks.length → bindArgs fd ⟨us, ks.zip ws⟩ = pure (ps.zip (us ++ (ps.drop a).filterMap fun p => (ks.zip ws).lookup p))
theorem look_rep {ψ φ : List Addr} {H : Hp} : ∀ {ks : List Str} {ts : List T} {vs : List V} {us : List Value} {p : Str} {t : T}, Reps B.K B.mg ψ φ H vs ts → Vals vs us → (ks.zip ts).lookup p = some t → ∃ v u, (ks.zip us).lookup p = some u ∧ RelV v u ∧ Rep B.K B.mg ψ φ H v t
  | [], _, _, _, _, _, _, _, h => by simp at h
  | _ :: _, [], _, _, _, _, _, _, h => by simp at h
  | x :: ks, t0 :: ts, _, _, p, t, .cons h1 h2, .cons r1 r2, h => by
    rw [List.zip_cons_cons, List.lookup_cons] at h
    rw [List.zip_cons_cons, List.lookup_cons]
    cases e : p == x with
    | true => rw [e] at h; cases h; exact ⟨_, _, rfl, r1, h1⟩
    | false => rw [e] at h; exact look_rep h2 r2 h
theorem kw_rep {ψ φ : List Addr} {H : Hp} {ks : List Str} {ts : List T} {vs : List V} {us : List Value} (h : Reps B.K B.mg ψ φ H vs ts) (r : Vals vs us) : ∀ {ps : List Str} {as : List T}, ps.mapM (fun p => (ks.zip ts).lookup p) = some as →
    ∃ bs, Reps B.K B.mg ψ φ H bs as ∧ Vals bs (ps.filterMap fun p => (ks.zip us).lookup p)
  | [], as, e => by cases e; exact ⟨[], .nil, .nil⟩
  | p :: ps, as, e => by
    rw [List.mapM_cons] at e
    cases e1 : (ks.zip ts).lookup p with
    | none => rw [e1] at e; cases e
    | some t =>
      rw [e1] at e
      cases e2 : ps.mapM (fun p => (ks.zip ts).lookup p) with
      | none => rw [e2] at e; cases e
      | some as' =>
        rw [e2] at e
        cases e
        obtain ⟨v, u, h1, h2, h3⟩ := look_rep h r e1
        obtain ⟨bs, h4, h5⟩ := kw_rep h r e2
        refine ⟨v :: bs, .cons h3 h4, ?_⟩
        rw [List.filterMap_cons, h1]
        exact .cons h2 h5
theorem mapM_len {α β : Type} {f : α → Option β} : ∀ {xs : List α} {ys : List β}, xs.mapM f = some ys → ys.length = xs.length
  | [], ys, h => by cases h; rfl
  | x :: xs, ys, h => by
    rw [List.mapM_cons] at h
    cases e1 : f x with
    | none => rw [e1] at h; cases h
    | some y =>
      rw [e1] at h
      cases e2 : xs.mapM f with
      | none => rw [e2] at h; cases h
      | some ys' => rw [e2] at h; cases h; rw [List.length_cons, List.length_cons, mapM_len e2]
structure OwnFn (B : Base) (tab : Str → Option Fn) (W n : Nat) (x : Str) (fn : Fn) (fa : Addr) (fd : FuncData) : Prop where
  mg : B.mg x = some (.ref fa)
  keep : PySem.W.keepIn B.K (.ref fa) = true
  run : FnG B tab W n fn fa fd
/-- the callee runs -/
theorem run_own {X : Cx} {tab : Str → Option Fn} {W : Nat} {x : Str} {fn : Fn} {fa : Addr} {fd : FuncData} {a : Nat} {ks : List Str} (s : Sit B k N sc X) (F : OwnFn B tab W k x fn fa fd) (ht : tab x = some fn) (hb : BindOk fd fn.ps a ks)
    {pins : List (Addr × Obj)} {σ : L2.St} {H : Hp} {s' : Shared} {Q : VK} {us ws : List Value} {vs zs : List V} {ts ys : List T} {φ : List Addr} {S : Sto} (I : Inv X pins σ H s') (r : Vals vs us) (rz : Vals zs ws) (hS : RelS B.K B.mg B.hid φ S H) (hv : B.reps φ H vs ts) (hz : B.reps φ H zs ys)
    (hl : ts.length = a) (hl2 : ys.length = ks.length) (hp : Post B B.rep φ H (callN tab W k x ts (ks.zip ys) S) Q) : wpAny (model X.prog X.w) X.A (call (.ref fa) us (ks.zip ws)) (EP X pins σ Q) X.xe s' := by
  rw [callN_eq ht] at hp
  unfold bindA at hp
  split at hp
  · exact hp.elim
  · rename_i as has
    split at has
    · rename_i hlen
      split at has
      · rename_i r0 hr0
        cases has
        obtain ⟨bs, h4, h5⟩ := kw_rep (ks := ks) hz rz hr0
        have e1 : us.length = a := by rw [← r.length, hv.length]; exact hl
        have e2 : ws.length = ks.length := by rw [← rz.length, hz.length]; exact hl2
        have hbd := hb us ws e1 e2
        have hla : (ts ++ r0).length = fn.ps.length := by
          have := mapM_len hr0
          rw [List.length_append, this, List.length_drop]
          omega
        rw [hl] at h5
        have e0 := I.env0
        rw [s.hP, s.hw, s.hK, s.hmg, s.hbase] at e0
        refine wpAny_call (codeAny_mono (show codeAny (model X.prog X.w) X.A _ (CR CX0 X.stack X.prog X.w H s' Q E0) s' from ?_) fun rr s'' hq => ?_)
        · rw [s.hP, s.hw]
          exact F.run.run B.hid X.A X.stack s' H _ _ _ φ S _ Q s.room s.gs e0 (.of_eq hbd) (r.append h5) hS (hv.append h4) hla hp
        · cases rr with
          | error e => exact hq.elim
          | ok fl =>
            cases fl with
            | ret u => exact I.after hq
            | next => exact hq.elim
            | brk => exact hq.elim
            | cont => exact hq.elim
      · cases has
    · cases has

/-! ### keywords -/
def IKw (B : Base) (k : Nat) (N : List Str) (sc : Scp) (kws : List Keyword) (m : Env → Sto → R (List T)) : Prop := ∀ X, Sit B k N sc X → PK X kws (tAs B m)
theorem PK.imp {X : Cx} {kws : List Keyword} {t t' : TA} (h : PK X kws t) (hi : ∀ σ H Q, t' σ H Q → t σ H Q) : PK X kws t' := ⟨fun pos pins s σ H Q I q => h.run pos pins s σ H Q I (hi _ _ _ q)⟩
theorem ik_nil : IKw B k N sc [] (fun _ S => .ok [] S) := fun X s => PK.imp pk_nil fun σ H Q ⟨φ, ρ, S, hS, hE, hp⟩ => hp.ok hS .nil
theorem ik_cons {nm : Option Str} {kpos : Pos} {kws : List Keyword} {m : Env → Sto → R T} {ms : Env → Sto → R (List T)} (ha : IE B k N sc e m) (hr : IKw B k N sc kws ms) :
    IKw B k N sc (⟨nm, e, kpos⟩ :: kws) (fun ρ S => (m ρ S).bind fun x S => (ms ρ S).bind fun xs S => .ok (x :: xs) S) := fun X s => by
  refine PK.imp (pk_cons (ha X s) (hr X s)) fun σ H Q ⟨φ, ρ, S, hS, hE, hp⟩ => ?_
  refine ⟨φ, ρ, S, hS, hE, hp.bind fun t S1 φ1 H1 v _ e1 hS1 rv hp1 => ?_⟩
  refine ⟨φ1, ρ, S1, hS1, hE.ext e1, hp1.bind fun t2 S2 φ2 H2 v2 _ e2 hS2 rv2 hp2 => ?_⟩
  exact hp2.ok hS2 (.cons (rv.ext e2) rv2)
def kwIs : List Str → List Keyword → Bool
  | [], [] => true
  | x :: xs, ⟨some y, _, _⟩ :: ks => x == y && kwIs xs ks
  | _, _ => false
theorem kw_is {env : PySem.Env} : ∀ {ks : List Str} {kws : List Keyword}, kwIs ks kws = true → (backToKw pos (keywordEach kws env)).all (·.1.isSome) = true ∧ (backToKw pos (keywordEach kws env)).filterMap (·.1) = ks ∧ (backToKw pos (keywordEach kws env)).any (·.1.isNone) = false
  | [], [], _ => ⟨rfl, rfl, rfl⟩
  | x :: xs, ⟨some y, e, p⟩ :: kws, h => by
    rw [kwIs, Bool.and_eq_true, beq_iff_eq] at h
    obtain ⟨h1, h2, h3⟩ := kw_is (env := env) h.2
    have eq : backToKw pos (keywordEach (⟨some y, e, p⟩ :: kws) env) = (some y, do let v ← eval e env; standAt pos; pure v) :: backToKw pos (keywordEach kws env) := rfl
    rw [eq]
    refine ⟨?_, ?_, ?_⟩
    · rw [List.all_cons, h1]; rfl
    · rw [List.filterMap_cons, h2]
      show y :: xs = _
      rw [h.1]
    · rw [List.any_cons, h3]; rfl
  | [], _ :: _, h => by cases h
  | _ :: _, [], h => by cases h
  | _ :: _, ⟨none, _, _⟩ :: _, h => by cases h
theorem ie_call {tab : Str → Option Fn} {W : Nat} {x : Str} {fn : Fn} {fa : Addr} {fd : FuncData} {ks : List Str} {kws : List Keyword} {p : Pos} {ms kms : Env → Sto → R (List T)} (hg : sc.names.lookup x = some .globalImplicit) (hd : (x == ("__debug__" : Str)) = false) (F : OwnFn B tab W k x fn fa fd)
    (ht : tab x = some fn) (hb : BindOk fd fn.ps es.length ks) (hs : es.any isStar = false) (hk : kwIs ks kws = true) (ha : IA B k N sc es ms) (hkw : IKw B k N sc kws kms) (hl : ∀ ρ S ts S', ms ρ S = .ok ts S' → ts.length = es.length) (hl2 : ∀ ρ S ts S', kms ρ S = .ok ts S' → ts.length = ks.length)
    (hn : es = [] → ∀ ρ S, ms ρ S = .ok [] S) (hn2 : kws = [] → ∀ ρ S, kms ρ S = .ok [] S) :
    IE B k N sc (.Call (.Name x p) es kws pos) (fun ρ S => (ms ρ S).bind fun xs S => (kms ρ S).bind fun ys S => callN tab W k x xs (ks.zip ys) S) := fun X s => by
  refine ⟨fun pins s' σ H Q I ⟨φ, ρ, S, hS, hE, hp⟩ => ?_⟩
  have hmx : X.mg x = some (.ref fa) := by rw [s.hmg]; exact F.mg
  have hkx : PySem.W.keepIn X.K (.ref fa) = true := by rw [s.hK]; exact F.keep
  refine wpAny_Call_Name_kw (ld_glob I (gl_of s hg) hmx ?_ hd)
  obtain ⟨k1, k2, k3⟩ := kw_is (pos := pos) (env := X.env) hk
  have hargs : tAs B ms σ H fun vs H1 => ∃ φ1 ts S1, ts.length = es.length ∧ RelS B.K B.mg B.hid φ1 S1 H1 ∧ RelE B.K B.mg B.hid φ1 H1 ρ σ ∧ B.reps φ1 H1 vs ts ∧ Post B B.rep φ1 H1 ((kms ρ S1).bind fun ys S => callN tab W k x ts (ks.zip ys) S) Q :=
    ⟨φ, ρ, S, hS, hE, hp.bind fun ts S1 φ1 H1 vs em e1 hS1 rv hp1 => ⟨φ1, ts, S1, hl _ _ _ _ em, hS1, hE.ext e1, rv, hp1⟩⟩
  have hkws : ∀ {φ1 : List Addr} {S1 : Sto} {H1 : Hp} {vs : List V} {ts : List T}, RelS B.K B.mg B.hid φ1 S1 H1 → RelE B.K B.mg B.hid φ1 H1 ρ σ → B.reps φ1 H1 vs ts → Post B B.rep φ1 H1 ((kms ρ S1).bind fun ys S => callN tab W k x ts (ks.zip ys) S) Q →
      tAs B kms σ H1 fun zs H2 => ∃ φ2 ys S2, ys.length = ks.length ∧ RelS B.K B.mg B.hid φ2 S2 H2 ∧ B.reps φ2 H2 vs ts ∧ B.reps φ2 H2 zs ys ∧ Post B B.rep φ2 H2 (callN tab W k x ts (ks.zip ys) S2) Q :=
    fun hS1 hE1 rv hp1 => ⟨_, ρ, _, hS1, hE1, hp1.bind fun ys S2 φ2 H2 zs em e2 hS2 rz hp2 => ⟨φ2, ys, S2, hl2 _ _ _ _ em, hS2, rv.ext e2, rz, hp2⟩⟩
  cases es with
  | nil =>
    have e0 := hn rfl ρ S
    simp only [e0, R.bind_ok] at hp
    cases kws with
    | nil =>
      cases ks with
      | cons _ _ => cases hk
      | nil =>
        have e1 := hn2 rfl ρ S
        simp only [e1, R.bind_ok] at hp
        exact PySem.W.callWith_K0 I.kIn hkx (run_own (us := []) (ws := []) (ks := []) s F ht hb I .nil .nil hS .nil .nil rfl rfl hp)
    | cons kw kws =>
      refine PySem.W.callWith_KW0 (h₀ := X.base) I.ok.mod.kin hkx k1 ?_ (by rw [k3]; rfl)
      refine thn ((hkw X s).run pos pins s' σ H _ I (hkws hS hE .nil hp)) fun ws s2 ⟨zs, H2, I2, rz, φ2, ys, S2, hl3, hS2, rv2, rz2, hp2⟩ => ⟨I2.kIn, ?_⟩
      rw [k2]
      exact run_own (us := []) s F ht hb I2 .nil rz hS2 rv2 rz2 rfl hl3 hp2
  | cons e es =>
    rw [List.any_cons, Bool.or_eq_false_iff] at hs
    cases kws with
    | nil =>
      refine PySem.W.callWith_K (h₀ := X.base) I.ok.mod.kin hkx (thn ((ha X s).run pos pins s' σ H _ I hargs) fun us s1 ⟨vs, H1, I1, r, φ1, ts, S1, hlt, hS1, hE1, rv, hp1⟩ => ⟨I1.kIn, ?_⟩) (star_head hs.1) (star_none hs.2)
      cases ks with
      | cons _ _ => cases hk
      | nil =>
        have e1 := hn2 rfl ρ S1
        simp only [e1, R.bind_ok] at hp1
        exact run_own (ws := []) (ks := []) s F ht hb I1 r .nil hS1 rv .nil hlt rfl hp1
    | cons kw kws =>
      refine PySem.W.callWith_KW (h₀ := X.base) I.ok.mod.kin hkx k1 (thn ((ha X s).run pos pins s' σ H _ I hargs) fun us s1 ⟨vs, H1, I1, r, φ1, ts, S1, hlt, hS1, hE1, rv, hp1⟩ => ?_) (by
        rw [k3, Bool.or_false, star_head hs.1]
        show ((false, _) :: backTo pos (starEach es X.env)).any (·.1) = false
        rw [List.any_cons, star_none hs.2]; rfl) (star_head hs.1)
      refine thn ((hkw X s).run pos pins s1 σ H1 _ I1 (hkws hS1 hE1 rv hp1)) fun ws s2 ⟨zs, H2, I2, rz, φ2, ys, S2, hl3, hS2, rv2, rz2, hp2⟩ => ⟨I2.kIn, ?_⟩
      rw [k2]
      exact run_own s F ht hb I2 r rz hS2 rv2 rz2 hlt hl3 hp2
end
end Px
end
section
set_option linter.all false
set_option maxRecDepth 100000
/-! PxS1: a set of keys of one kind (texts, ints) that may be walked: its members as a list, in any order. -/
namespace Px
open PySem PySem.Spec PyProof.Rows L2

/-- a kind of keys that are looked at one by one -/
structure SKd (P : Program) (w : World) (K : Type) [DecidableEq K] where
  kd : PySem.KeyKind P w K
  key : Value → K
  key_is : ∀ k v, kd.is k v = true → key v = k
  scan : ∀ k v, kd.is k v = true → v.scannable = true
theorem addK_mem {K : Type} [DecidableEq K] {l : List K} {k x : K} : x ∈ addK l k ↔ x ∈ l ∨ x = k := by
  unfold addK
  split
  · rename_i h
    exact ⟨.inl, fun z => z.elim id fun e => e ▸ h⟩
  · simp
theorem addK_nodup {K : Type} [DecidableEq K] {l : List K} {k : K} (h : l.Nodup) : (addK l k).Nodup := by
  unfold addK
  split
  · exact h
  · rename_i hk
    rw [List.nodup_append]
    exact ⟨h, by simp, fun a ha b hb e => hk (by rw [List.mem_singleton] at hb; rw [← hb, ← e]; exact ha)⟩
theorem addK_len {K : Type} [DecidableEq K] {l : List K} {k : K} : (addK l k).length ≤ l.length + 1 := by
  unfold addK
  split
  · omega
  · simp
theorem addsK_len {K : Type} [DecidableEq K] : ∀ {ks l : List K}, (addsK l ks).length ≤ l.length + ks.length
  | [], l => by simp [addsK]
  | k :: ks, l => by
    have := addsK_len (ks := ks) (l := addK l k)
    have := addK_len (l := l) (k := k)
    show (addsK (addK l k) ks).length ≤ _
    rw [List.length_cons]
    omega
theorem addsK_app {K : Type} [DecidableEq K] : ∀ {ks js l : List K}, addsK l (ks ++ js) = addsK (addsK l ks) js
  | [], _, _ => rfl
  | k :: ks, js, l => addsK_app (ks := ks) (js := js) (l := addK l k)
theorem addsK_mem {K : Type} [DecidableEq K] : ∀ {ks l : List K} {x : K}, x ∈ addsK l ks ↔ x ∈ l ∨ x ∈ ks
  | [], l, x => by simp [addsK]
  | k :: ks, l, x => by
    show x ∈ addsK (addK l k) ks ↔ _
    rw [addsK_mem, addK_mem, List.mem_cons, or_assoc]
theorem addsK_nodup {K : Type} [DecidableEq K] : ∀ {ks l : List K}, l.Nodup → (addsK l ks).Nodup
  | [], _, h => h
  | _ :: ks, _, h => addsK_nodup (ks := ks) (addK_nodup h)
theorem nodup_len {K : Type} [DecidableEq K] : ∀ {l m : List K}, l.Nodup → (∀ x ∈ l, x ∈ m) → l.length ≤ m.length
  | [], _, _, _ => Nat.zero_le _
  | x :: l, m, h, hm => by
    obtain ⟨h1, h2⟩ := List.nodup_cons.mp h
    have hx := hm x List.mem_cons_self
    have := nodup_len (l := l) (m := m.erase x) h2 fun y hy => by
      have hne : y ≠ x := fun e => h1 (e ▸ hy)
      exact (List.mem_erase_of_ne hne).mpr (hm y (List.mem_cons_of_mem _ hy))
    rw [List.length_erase_of_mem hx] at this
    have hp : 0 < m.length := List.length_pos_of_mem hx
    rw [List.length_cons]
    omega

section
variable {P : Program} {w : World} {K : Type} [DecidableEq K] (κ : SKd P w K)
def SKd.of (κ : SKd P w K) (e : Int × Value) : K := κ.key e.2
/-- what the set at a holds -/
structure SetDat (h : Heap) (a : Addr) (l : List K) (o : Obj) (es : Array (Int × Value)) (ep : Nat) (t : SetTable) : Prop where
  ho : h.get? a = some o
  ex : o.ExactSet
  hd : o.data = .set es ep t
  el : ElemsOf κ.kd es.toList
  pm : (es.toList.map κ.of).Perm l
  nd : l.Nodup
  lt : es.size < scanBound
  ft : t.fits es.size = true
  ri : Ris t.place.toList
  led : w.params.followText "set-order" = true ∨ t.led = true
def SetK (h : Heap) (a : Addr) (l : List K) : Prop := ∃ o es ep t, SetDat κ h a l o es ep t
variable {κ} {h h' : Heap} {a : Addr} {l : List K}
theorem SetK.at (R : SetK κ h a l) (k : ∀ o, h.get? a = some o → h'.get? a = some o) : SetK κ h' a l := by
  obtain ⟨o, es, ep, t, r⟩ := R
  exact ⟨o, es, ep, t, { r with ho := k o r.ho }⟩
theorem SetK.perm {l' : List K} (R : SetK κ h a l) (p : l.Perm l') : SetK κ h a l' := by
  obtain ⟨o, es, ep, t, r⟩ := R
  exact ⟨o, es, ep, t, { r with pm := r.pm.trans p, nd := p.nodup_iff.mp r.nd }⟩
theorem SetK.ob (R : SetK κ h a l) : ∃ o, h.get? a = some o := by
  obtain ⟨o, es, ep, t, r⟩ := R
  exact ⟨o, r.ho⟩
theorem SetDat.is {o : Obj} {es : Array (Int × Value)} {ep : Nat} {t : SetTable} (r : SetDat κ h a l o es ep t) {e : Int × Value} (he : e ∈ es.toList) (k : K) : κ.kd.is k e.2 = true ↔ κ.of e = k := by
  obtain ⟨⟨k0, h0, _⟩, _⟩ := r.el e he
  have e0 : κ.of e = k0 := κ.key_is k0 _ h0
  rw [e0]
  exact ⟨fun z => κ.kd.inj _ _ _ h0 z, fun z => z ▸ h0⟩
theorem SetDat.len {o : Obj} {es : Array (Int × Value)} {ep : Nat} {t : SetTable} (r : SetDat κ h a l o es ep t) : es.size = l.length := by
  have := r.pm.length_eq
  rw [List.length_map, Array.length_toList] at this
  exact this
theorem setK_new (ho : h.get? a = some { cls := .type "set", dict := none, data := .set #[] 0 (.fresh 0 0 (!w.params.followText "set-order")) }) : SetK κ h a [] :=
  ⟨_, #[], 0, _, ⟨ho, ⟨rfl, rfl, rfl⟩, rfl, fun e he => by simp at he, by simp, List.nodup_nil, by decide, by rfl, List.Pairwise.nil, by
    show _ ∨ (!w.params.followText "set-order") = true
    cases w.params.followText "set-order"
    · exact .inr rfl
    · exact .inl rfl⟩⟩
end

section
variable {P : Program} {w : World} {K : Type} [DecidableEq K] {κ : SKd P w K} {A : Around} {E : Value → Shared → Prop} {s : Shared} {a : Addr} {l : List K}
/-- a member more: the table is laid, and laid anew where it is too full -/
theorem setK_lay {g : Bool → Sem Unit} (hg : ∀ (b : Bool) (s₁ : Shared) (Q' : Unit → Shared → Prop), Q' () s₁ → wpAny (model P w) A (g b) Q' E s₁)
    {o : Obj} {es es1 : Array (Int × Value)} {ep : Nat} {t t2 : SetTable} {l' : List K} (ho : s.heap.get? a = some o) (hex : o.ExactSet) (hd : o.data = .set es ep t)
    (el : ElemsOf κ.kd es1.toList) (pm : (es1.toList.map κ.of).Perm l') (nd : l'.Nodup) (hb : es1.size < scanBound) (hf : t2.fits es1.size = true) (hr : Ris t2.place.toList) (hl : w.params.followText "set-order" = true ∨ t2.led = true)
    {wasDummy : Bool} {R : Option Bool → Shared → Prop} (hR : ∀ h', Heap.SameBut a s.heap h' → SetK κ h' a l' → R (some true) { s with heap := h' }) :
    wpAny (model P w) A (do
        storeSet a es1 t2
        if (!wasDummy && t2.tooFull) = true then do
            g (relayAll t2 es1 (SetTable.grown es1.size)).2.2
            storeSet a (relayAll t2 es1 (SetTable.grown es1.size)).1 (relayAll t2 es1 (SetTable.grown es1.size)).2.1
            pure (some true)
          else pure (some true)) R E s := by
  refine wpAny_bind (wpAny_storeSet_of ho hd ?_ (fits_of_scanBound hb))
  have o1 := store_at (es' := es1) (t' := t2) ho hd
  have sb := Heap.SameBut.update s.heap a (Obj.putSet es1 t2)
  by_cases hc : (!wasDummy && t2.tooFull) = true
  · rw [if_pos hc]
    have p3 := relayAll_perm t2 es1 (SetTable.grown es1.size)
    have f3 := relayAll_fits t2 es1 (SetTable.grown es1.size)
    have r3 := relayAll_ris t2 es1 (SetTable.grown es1.size)
    have l3 := relayAll_led t2 es1 (SetTable.grown es1.size)
    generalize relayAll t2 es1 (SetTable.grown es1.size) = Z at p3 f3 r3 l3 ⊢
    obtain ⟨es3, t3, gave⟩ := Z
    dsimp only at p3 f3 r3 l3 ⊢
    have z3 : es3.size < scanBound := by rw [← Array.length_toList, p3.length_eq, Array.length_toList]; exact hb
    refine wpAny_bind (hg _ _ _ (wpAny_bind (wpAny_storeSet_of o1 rfl ?_ (fits_of_scanBound z3))))
    have o3 := store_at (es' := es3) (t' := t3) o1 rfl
    refine wpAny_pure (hR _ (sb.trans (Heap.SameBut.update _ a _)) ?_)
    exact ⟨_, es3, _, t3, o3, hex, rfl, el.perm p3, (p3.map κ.of).trans pm, nd, z3, f3, r3, hl.imp id fun z => by rw [l3]; exact z⟩
  · rw [if_neg hc]
    exact wpAny_pure (hR _ sb ⟨_, es1, _, t2, o1, hex, rfl, el, pm, nd, hb, hf, hr, hl⟩)
theorem setK_add {k : K} {v : Value} {Q : Bool → Shared → Prop} (hv : κ.kd.is k v = true) (R : SetK κ s.heap a l) (room : l.length + 1 < scanBound)
    (hQ : ∀ h', Heap.SameBut a s.heap h' → SetK κ h' a (addK l k) → ∀ b, Q b { s with heap := h' }) : wpAny (model P w) A (setAddHashed a v (κ.kd.hash k)) Q E s := by
  obtain ⟨o, es, ep, t, r⟩ := R
  have hsc := κ.scan k v hv
  have hlen := r.len
  have mem : k ∈ l ↔ ∃ e ∈ es.toList, κ.kd.is k e.2 = true := by
    rw [← r.pm.mem_iff, List.mem_map]
    exact ⟨fun ⟨e, he, q⟩ => ⟨e, he, (r.is he k).mpr q⟩, fun ⟨e, he, q⟩ => ⟨e, he, (r.is he k).mp q⟩⟩
  unfold setAddHashed setAddHashedIn
  refine wpAny_holding (wpAny_bind (wpAny_setState_of r.ho r.hd r.ft ?_))
  dsimp only
  rw [byScan_of hsc r.lt r.el]
  simp only [↓reduceIte]
  unfold setAddByScan
  refine wpAny_bind (wpAny_bind (wpAny_rule (wpAny_bind (wpAny_setScan_of hv r.ho r.hd r.ft r.el ?_))))
  cases hfi : List.findIdx? (fun e => κ.kd.is k e.2) es.toList with
  | some j =>
    dsimp only
    obtain ⟨hj, pj, _⟩ := List.findIdx?_eq_some_iff_getElem.mp hfi
    have hk : k ∈ l := mem.mpr ⟨es.toList[j], List.getElem_mem hj, pj⟩
    refine wpAny_pure (wpAny_pure (hQ s.heap (Heap.SameBut.refl a s.heap) ?_ _))
    rw [addK, if_pos hk]
    exact ⟨o, es, ep, t, r⟩
  | none =>
    dsimp only
    have hk : k ∉ l := fun z => by
      obtain ⟨e, he, q⟩ := mem.mp z
      have c := List.findIdx?_eq_none_iff.mp hfi e he
      rw [q] at c
      cases c
    have eq : addK l k = l ++ [k] := by rw [addK, if_neg hk]
    have gw : ∀ (b : Bool) {s₁ : Shared} {Q' : Unit → Shared → Prop}, Q' () s₁ → wpAny (model P w) A (match b with | true => rule "set.scan.the-table-gave-way" | false => pure ()) Q' E s₁ :=
      fun b s₁ Q' q => by cases b <;> first | exact wpAny_pure q | exact wpAny_rule q
    have p1 := layNew_perm t es (κ.kd.hash k) v
    have f1 := layNew_fits t es (κ.kd.hash k) v
    have r1 := layNew_ris t es (κ.kd.hash k) v r.ri
    have l1 := layNew_led t es (κ.kd.hash k) v
    generalize layNew t es (κ.kd.hash k) v = Z at p1 f1 r1 l1 ⊢
    obtain ⟨es1, t1, wasDummy, gave⟩ := Z
    dsimp only at p1 f1 r1 l1 ⊢
    rw [Array.toList_push] at p1
    have e1 : ElemsOf κ.kd es1.toList := (r.el.push hv hsc).perm p1
    have pm : (es1.toList.map κ.of).Perm (addK l k) := by
      have := p1.map κ.of
      rw [List.map_append] at this
      rw [eq]
      refine this.trans ?_
      have ek : [((κ.kd.hash k, v) : Int × Value)].map κ.of = [k] := by
        show [κ.key v] = [k]
        rw [κ.key_is k v hv]
      rw [ek]
      exact r.pm.append_right [k]
    have nd : (addK l k).Nodup := addK_nodup r.nd
    have z1 : es1.size < scanBound := by
      rw [← Array.length_toList, p1.length_eq, List.length_append, Array.length_toList, hlen]
      exact room
    have led : w.params.followText "set-order" = true ∨ t1.led = true := r.led.imp id fun z => by rw [l1]; exact z
    refine wpAny_bind (gw _ ?_)
    split
    · refine wpAny_bind ?_
      rw [hashByValue_scannable 8 hsc]
      refine wpAny_pure ?_
      refine setK_lay (κ := κ) ?_ r.ho r.ex r.hd e1 pm nd z1 ?_ ?_ ?_ ?_
      · intro b s₁ Q' q; cases b <;> first | exact wpAny_pure q | exact wpAny_rule q
      · first | (split <;> first | exact f1 | exact SetTable.fits_plain_off f1) | exact f1
      · first | (split <;> exact r1) | exact r1
      · first | (split <;> exact led) | exact led
      · intro h' sb R'; dsimp only; exact wpAny_pure (hQ h' sb R' _)
    · refine wpAny_bind (wpAny_pure ?_)
      simp only [↓reduceIte]
      refine setK_lay (κ := κ) ?_ r.ho r.ex r.hd e1 pm nd z1 f1 r1 led ?_
      · intro b s₁ Q' q; cases b <;> first | exact wpAny_pure q | exact wpAny_rule q
      · intro h' sb R'; dsimp only; exact wpAny_pure (hQ h' sb R' _)
/-- found.add(k) -/
theorem setK_call {k : K} {v : Value} {Q : Value → Shared → Prop} (hv : κ.kd.is k v = true) (R : SetK κ s.heap a l) (room : l.length + 1 < scanBound)
    (hQ : ∀ h', Heap.SameBut a s.heap h' → SetK κ h' a (addK l k) → Q .none { s with heap := h', toks := s.toks + 1 }) : wpAny (model P w) A (call (.builtin "set.add") [.ref a, v]) Q E s := by
  have hT : s.TypeIs (.ref a) "set" := by
    obtain ⟨o, es, ep, t, r⟩ := R
    exact ⟨o, r.ho, r.ex.1⟩
  refine wpAny_call_entry F.slot_set_add hT F.entry_set_add ?_ (F.args_set_add_2 _ _)
  unfold Builtin.«set.add» Builtin.Frozenset.oneOther
  simp only [List.isEmpty_nil, bind_assoc]
  unfold Builtin.Frozenset.addrOf setAdd
  refine wpAny_bind (wpAny_pure ?_)
  try dsimp only
  refine wpAny_bind (wpAny_pure ?_)
  try dsimp only
  refine wpAny_bind (wpAny_holding (wpAny_bind (κ.kd.pyHash hv ?_)))
  refine setK_add (s := { s with toks := s.toks + 1 }) hv R room fun h' sb R' b => ?_
  show wpAny _ _ (ret Value.none) _ _ _
  exact wpAny_pure ⟨_, rfl, hQ h' sb R'⟩
end
/-- texts -/
def skStr (P : Program) (w : World) : SKd P w Str where
  kd := PySem.strKind P w
  key := fun v => match v with | .str x _ => x | _ => ⟨#[]⟩
  key_is := fun k v h => by
    obtain ⟨t, rfl⟩ := Value.isStrOf_shape (x := k) (v := v) h
    rfl
  scan := fun k v h => by
    obtain ⟨t, rfl⟩ := Value.isStrOf_shape (x := k) (v := v) h
    rfl
end Px
end
section
set_option linter.all false
set_option maxRecDepth 100000
/-! PxS2: set(xs) of a list or a tuple of keys; sorted of a set of texts; len of a set. -/
namespace Px
open PySem PySem.Spec PyProof.Rows L2
section
variable {P : Program} {w : World} {K : Type} [DecidableEq K] {κ : SKd P w K} {A : Around} {E : Value → Shared → Prop} {s : Shared}
theorem setK_loop {I : Addr} {fp wr : List Addr} {G : Array GenState → Array GenState → Prop} {n : Nat} {Pv : Nat → Value → Prop} {St : Nat → Shared → Prop} {R : Result → Shared → Prop}
    (W : WalksS P w A.in1 I fp wr G n Pv St) (S : Addr) (hSf : S ∉ fp) (ks : List K) (hn : n = ks.length) (hb : ks.length + 1 < scanBound) (hval : ∀ i v, Pv i v → ∃ k, ks[i]? = some k ∧ κ.kd.is k v = true) :
    ∀ (m i : Nat) (s : Shared), n - i = m → i ≤ n → St i s → SetK κ s.heap S (addsK [] (ks.take i)) → (∀ s', Moved (S :: wr) G s s' → SetK κ s'.heap S (addsK [] ks) → R (.ok (.ret .none)) s') →
      codeAny (model P w) A (.builtin "set.update.loop" ⟨[.ref S, .ref I], []⟩) R s := by
  have nw : S ∉ wr := fun h => hSf (W.sub _ h)
  have up : ∀ b ∈ wr, b ∈ S :: wr := fun b hb => List.mem_cons_of_mem _ hb
  intro m
  induction m with
  | zero =>
    intro i s hm hi hst hS hR
    have hin : i = n := by omega
    subst hin
    refine codeAny_builtin F.entry_set_update_loop ?_
    rw [Around.under_plainId F.plain_set_update_loop _]
    show wpAny _ A.in1 (pyNext (.ref I) >>= _) _ _ s
    refine wpAny_bind (W.done s _ _ hst fun s' mv => ?_)
    show wpAny _ A.in1 (ret Value.none) _ _ s'
    rw [show ks.take i = ks from List.take_of_length_le (by omega)] at hS
    exact wpAny_pure (hR s' (mv.mono up) (hS.at fun o e => mv.heap S o nw e))
  | succ m ih =>
    intro i s hm hi hst hS hR
    have hlt : i < n := by omega
    refine codeAny_builtin F.entry_set_update_loop ?_
    rw [Around.under_plainId F.plain_set_update_loop _]
    show wpAny _ A.in1 (pyNext (.ref I) >>= _) _ _ s
    refine wpAny_bind (W.item i s _ _ hlt hst fun v s' hP st1 mv => ?_)
    obtain ⟨k, hk, hv⟩ := hval i v hP
    have S1 : SetK κ s'.heap S (addsK [] (ks.take i)) := hS.at fun o e => mv.heap S o nw e
    show wpAny _ A.in1 (holding [v] (setAdd S v) >>= _) _ _ s'
    refine wpAny_bind (wpAny_holding ?_)
    unfold setAdd
    refine wpAny_holding (wpAny_bind (κ.kd.pyHash hv ?_))
    have few : (addsK [] (ks.take i)).length + 1 < scanBound := by
      have := addsK_len (ks := ks.take i) (l := ([] : List K))
      rw [List.length_nil, List.length_take] at this
      omega
    refine setK_add (s := { s' with toks := s'.toks + 1 }) hv S1 few fun h' sb S2 b => ?_
    have S3 : SetK κ h' S (addsK [] (ks.take (i + 1))) := by
      rw [List.take_add_one, hk, addsK_app]
      exact S2
    refine wpAny_pure ⟨plainId_quiet F.plain_set_update_loop _, ih (i + 1) _ (by omega) hlt (W.frame _ s' _ _ st1 (Nat.le_succ _) fun b hb o e => ?_) S3 fun s2 mv2 S4 => ?_⟩
    · rw [sb.2 b (fun h : b = S => hSf (by rw [← h]; exact hb))]; exact e
    · refine hR s2 (Moved.trans W.gtrans ((mv.mono up).then_heap (Nat.le_succ _) fun b o hb e => ?_) mv2) S4
      rw [sb.2 b (fun h : b = S => hb (by rw [h]; exact List.mem_cons_self))]; exact e

set_option maxHeartbeats 3200000 in
/-- set(xs) of a list -/
theorem call_setK_list {l : Addr} {items : Array Value} (ks : List K) {Q : Value → Shared → Prop} (hh : A.handled = none) (hl : s.heap.IsList l items) (hz : items.size = ks.length) (hval : ∀ (i : Nat) (v : Value), items[i]? = some v → ∃ k, ks[i]? = some k ∧ κ.kd.is k v = true) (hb : ks.length + 1 < scanBound)
    (h : ∀ (h' : Heap) (tk : Nat), SetK κ h' s.heap.objs.size (addsK [] ks) → (∀ b o, s.heap.get? b = some o → h'.get? b = some o) → Q (.ref s.heap.objs.size) { s with heap := h', toks := tk }) :
    wpAny (model P w) A (call (.type "set") [.ref l]) Q E s := by
  obtain ⟨c, tl, hmro⟩ := F.called_set.mro
  have hmade := F.called_set.made
  have hsub := F.called_set.sub
  refine wpAny_call (codeAny_of_tree ?_)
  show wpAny _ _ (callAny (.type "set") _) _ _ _
  refine wpAny_pure ⟨Code.quiet_builtin _ (by decide +kernel), codeAny_builtin F.entry_type_call ?_⟩
  rw [Around.under_plain (weight_type_call_type "set" [.ref l] []) rfl]
  have h1 := F.called_set.notType
  have h2 := F.called_set.canCreate
  have hct := F.typeCall_set_1 (.ref l)
  repeat (any_goals (first | assumption | wp_step))
  refine codeAny_mono (code_set_led1 (.ref l) (E := E) (Q₁ := fun obj s₁ => obj = .ref s.heap.objs.size ∧ s₁ = { s with heap := s.heap.push { cls := .type "set", dict := none, data := .set #[] 0 (.fresh 0 0 (!w.params.followText "set-order")) } }) ⟨rfl, rfl⟩) fun r s₁ hr => ?_
  cases r with
  | error e => exact hr
  | ok fl =>
    cases fl with
    | ret obj =>
      obtain ⟨rfl, rfl⟩ := hr
      have hS : (s.heap.push { cls := .type "set", dict := none, data := .set #[] 0 (.fresh 0 0 (!w.params.followText "set-order")) }).get? s.heap.objs.size = some { cls := .type "set", dict := none, data := .set #[] 0 (.fresh 0 0 (!w.params.followText "set-order")) } := Heap.get?_push_size _ rfl
      have hT : Shared.TypeIs { s with heap := s.heap.push { cls := .type "set", dict := none, data := .set #[] 0 (.fresh 0 0 (!w.params.followText "set-order")) } } (.ref s.heap.objs.size) "set" := ⟨_, hS, rfl⟩
      have hli := F.called_set.init.lookup
      have hbi := F.called_set.init.bind (.ref s.heap.objs.size)
      repeat (any_goals (first | assumption | wp_step))
      refine codeAny_mono (codeAny_call_builtin (R := wants (fun r s₂ => r = .none ∧ ∃ h' tk, s₂ = { s with heap := h', toks := tk } ∧ SetK κ h' s.heap.objs.size (addsK [] ks) ∧
          (∀ b o, s.heap.get? b = some o → h'.get? b = some o)) E) F.called_set.init.plain F.entry_set_init (check_set_init_1 hT ?_)) fun r₂ s₂ hr₂ => ?_
      · obtain ⟨ol, hol, hcl, nl, hdl⟩ := hl
        obtain ⟨ocls, odict, odata, oslots⟩ := ol
        simp only at hcl hdl
        subst hcl; subst hdl
        have hol' : (s.heap.push { cls := .type "set", dict := none, data := .set #[] 0 (.fresh 0 0 (!w.params.followText "set-order")) }).get? l = some { cls := .type "list", dict := odict, data := .seq items nl, slots := oslots } := Heap.get?_push_of_some _ hol
        have hsls := F.sub_list_set
        have hslf := F.sub_list_frozenset
        have hne : (Value.type "list" == Value.type "dict") = false := by decide
        have hl1 : (s.heap.push { cls := .type "set", dict := none, data := .set #[] 0 (.fresh 0 0 (!w.params.followText "set-order")) }).IsList l items := ⟨_, hol', rfl, nl, rfl⟩
        unfold Builtin.«set.__init__» noKeywords Builtin.Frozenset.updateFrom
        generalize hPI : pyIter = PI
        wp_walk
        subst hPI
        refine wpAny_pyIter_list hl1 ?_
        refine wpAny_bind (wpAny_runValue ?_)
        have hlS : l < s.heap.objs.size := Heap.lt_size hol
        have hh3 : A.in1.in1.in1.handled = none := by simp [hh]
        have hp : (s.heap.push { cls := .type "set", dict := none, data := .set #[] 0 (.fresh 0 0 (!w.params.followText "set-order")) }).objs.size = s.heap.objs.size + 1 := Heap.size_push ..
        have hneI : l ≠ (s.heap.push { cls := .type "set", dict := none, data := .set #[] 0 (.fresh 0 0 (!w.params.followText "set-order")) }).objs.size := by rw [hp]; exact Nat.ne_of_lt (Nat.lt_succ_of_lt hlS)
        have hSf : s.heap.objs.size ∉ [(s.heap.push { cls := .type "set", dict := none, data := .set #[] 0 (.fresh 0 0 (!w.params.followText "set-order")) }).objs.size, l] := by
          rw [hp]
          simp only [List.mem_cons, List.not_mem_nil, or_false, not_or]
          exact ⟨Nat.ne_of_lt (Nat.lt_succ_self _), Nat.ne_of_gt hlS⟩
        refine setK_loop (κ := κ) ((Walks.list hh3 _ l hneI items).toS) s.heap.objs.size hSf ks hz hb hval (items.size - 0) 0 _ (by omega) (Nat.zero_le _)
          ⟨⟨_, Heap.get?_push_size _ rfl, rfl, rfl⟩, (hl1.push _)⟩ ?hS0 ?hR
        case hS0 =>
          refine setK_new ?_
          exact Heap.get?_push_of_some _ hS
        case hR =>
          intro s' mv S1
          obtain ⟨h', g2, d', tk', os'⟩ := s'
          have eg : g2 = s.gens := mv.gens
          have ed : d' = s.drawn := mv.drawn
          have eo : os' = s.os := mv.os
          subst eg; subst ed; subst eo
          show wpAny _ _ _ _ _ _
          refine wpAny_pure ?_
          show wpAny _ _ (ret Value.none) _ _ _
          refine wpAny_pure ⟨rfl, h', tk', rfl, S1, fun b o e => ?_⟩
          have hb0 : b < s.heap.objs.size := Heap.lt_size e
          refine mv.heap b o ?_ (Heap.get?_push_of_some _ (Heap.get?_push_of_some _ e))
          simp only [List.mem_cons, List.not_mem_nil, or_false, not_or]
          exact ⟨Nat.ne_of_lt hb0, by rw [hp]; exact Nat.ne_of_lt (Nat.lt_succ_of_lt hb0)⟩
      · cases r₂ with
        | error e => exact hr₂
        | ok fl₂ =>
          cases fl₂ with
          | ret r =>
            obtain ⟨rfl, h', tk, rfl, S1, kp⟩ := hr₂
            repeat (any_goals (first | assumption | wp_step))
            exact h _ _ S1 kp
          | _ => exact hr₂.elim
    | _ => exact hr.elim

set_option maxHeartbeats 3200000 in
/-- set(xs) of a tuple -/
theorem call_setK_tuple {l : Addr} {items : Array Value} (ks : List K) {Q : Value → Shared → Prop} (hh : A.handled = none) (hl : s.heap.IsTuple l items) (hz : items.size = ks.length) (hval : ∀ (i : Nat) (v : Value), items[i]? = some v → ∃ k, ks[i]? = some k ∧ κ.kd.is k v = true) (hb : ks.length + 1 < scanBound)
    (h : ∀ (h' : Heap) (tk : Nat), SetK κ h' s.heap.objs.size (addsK [] ks) → (∀ b o, s.heap.get? b = some o → h'.get? b = some o) → Q (.ref s.heap.objs.size) { s with heap := h', toks := tk }) :
    wpAny (model P w) A (call (.type "set") [.ref l]) Q E s := by
  obtain ⟨c, tl, hmro⟩ := F.called_set.mro
  have hmade := F.called_set.made
  have hsub := F.called_set.sub
  refine wpAny_call (codeAny_of_tree ?_)
  show wpAny _ _ (callAny (.type "set") _) _ _ _
  refine wpAny_pure ⟨Code.quiet_builtin _ (by decide +kernel), codeAny_builtin F.entry_type_call ?_⟩
  rw [Around.under_plain (weight_type_call_type "set" [.ref l] []) rfl]
  have h1 := F.called_set.notType
  have h2 := F.called_set.canCreate
  have hct := F.typeCall_set_1 (.ref l)
  repeat (any_goals (first | assumption | wp_step))
  refine codeAny_mono (code_set_led1 (.ref l) (E := E) (Q₁ := fun obj s₁ => obj = .ref s.heap.objs.size ∧ s₁ = { s with heap := s.heap.push { cls := .type "set", dict := none, data := .set #[] 0 (.fresh 0 0 (!w.params.followText "set-order")) } }) ⟨rfl, rfl⟩) fun r s₁ hr => ?_
  cases r with
  | error e => exact hr
  | ok fl =>
    cases fl with
    | ret obj =>
      obtain ⟨rfl, rfl⟩ := hr
      have hS : (s.heap.push { cls := .type "set", dict := none, data := .set #[] 0 (.fresh 0 0 (!w.params.followText "set-order")) }).get? s.heap.objs.size = some { cls := .type "set", dict := none, data := .set #[] 0 (.fresh 0 0 (!w.params.followText "set-order")) } := Heap.get?_push_size _ rfl
      have hT : Shared.TypeIs { s with heap := s.heap.push { cls := .type "set", dict := none, data := .set #[] 0 (.fresh 0 0 (!w.params.followText "set-order")) } } (.ref s.heap.objs.size) "set" := ⟨_, hS, rfl⟩
      have hli := F.called_set.init.lookup
      have hbi := F.called_set.init.bind (.ref s.heap.objs.size)
      repeat (any_goals (first | assumption | wp_step))
      refine codeAny_mono (codeAny_call_builtin (R := wants (fun r s₂ => r = .none ∧ ∃ h' tk, s₂ = { s with heap := h', toks := tk } ∧ SetK κ h' s.heap.objs.size (addsK [] ks) ∧
          (∀ b o, s.heap.get? b = some o → h'.get? b = some o)) E) F.called_set.init.plain F.entry_set_init (check_set_init_1 hT ?_)) fun r₂ s₂ hr₂ => ?_
      · obtain ⟨ol, hol, hcl, nl, hdl⟩ := hl
        obtain ⟨ocls, odict, odata, oslots⟩ := ol
        simp only at hcl hdl
        subst hcl; subst hdl
        have hol' : (s.heap.push { cls := .type "set", dict := none, data := .set #[] 0 (.fresh 0 0 (!w.params.followText "set-order")) }).get? l = some { cls := .type "tuple", dict := odict, data := .seq items nl, slots := oslots } := Heap.get?_push_of_some _ hol
        have hsls := F.sub_tuple_set
        have hslf := F.sub_tuple_frozenset
        have hne : (Value.type "tuple" == Value.type "dict") = false := by decide
        have hl1 : (s.heap.push { cls := .type "set", dict := none, data := .set #[] 0 (.fresh 0 0 (!w.params.followText "set-order")) }).IsTuple l items := ⟨_, hol', rfl, nl, rfl⟩
        unfold Builtin.«set.__init__» noKeywords Builtin.Frozenset.updateFrom
        generalize hPI : pyIter = PI
        wp_walk
        subst hPI
        refine wpAny_pyIter_tuple hl1 ?_
        refine wpAny_bind (wpAny_runValue ?_)
        have hlS : l < s.heap.objs.size := Heap.lt_size hol
        have hh3 : A.in1.in1.in1.handled = none := by simp [hh]
        have hp : (s.heap.push { cls := .type "set", dict := none, data := .set #[] 0 (.fresh 0 0 (!w.params.followText "set-order")) }).objs.size = s.heap.objs.size + 1 := Heap.size_push ..
        have hneI : l ≠ (s.heap.push { cls := .type "set", dict := none, data := .set #[] 0 (.fresh 0 0 (!w.params.followText "set-order")) }).objs.size := by rw [hp]; exact Nat.ne_of_lt (Nat.lt_succ_of_lt hlS)
        have hSf : s.heap.objs.size ∉ [(s.heap.push { cls := .type "set", dict := none, data := .set #[] 0 (.fresh 0 0 (!w.params.followText "set-order")) }).objs.size, l] := by
          rw [hp]
          simp only [List.mem_cons, List.not_mem_nil, or_false, not_or]
          exact ⟨Nat.ne_of_lt (Nat.lt_succ_self _), Nat.ne_of_gt hlS⟩
        refine setK_loop (κ := κ) ((Walks.tuple hh3 _ l hneI items).toS) s.heap.objs.size hSf ks hz hb hval (items.size - 0) 0 _ (by omega) (Nat.zero_le _)
          ⟨⟨_, Heap.get?_push_size _ rfl, rfl, rfl⟩, (hl1.push _)⟩ ?hS0 ?hR
        case hS0 =>
          refine setK_new ?_
          exact Heap.get?_push_of_some _ hS
        case hR =>
          intro s' mv S1
          obtain ⟨h', g2, d', tk', os'⟩ := s'
          have eg : g2 = s.gens := mv.gens
          have ed : d' = s.drawn := mv.drawn
          have eo : os' = s.os := mv.os
          subst eg; subst ed; subst eo
          show wpAny _ _ _ _ _ _
          refine wpAny_pure ?_
          show wpAny _ _ (ret Value.none) _ _ _
          refine wpAny_pure ⟨rfl, h', tk', rfl, S1, fun b o e => ?_⟩
          have hb0 : b < s.heap.objs.size := Heap.lt_size e
          refine mv.heap b o ?_ (Heap.get?_push_of_some _ (Heap.get?_push_of_some _ e))
          simp only [List.mem_cons, List.not_mem_nil, or_false, not_or]
          exact ⟨Nat.ne_of_lt hb0, by rw [hp]; exact Nat.ne_of_lt (Nat.lt_succ_of_lt hb0)⟩
      · cases r₂ with
        | error e => exact hr₂
        | ok fl₂ =>
          cases fl₂ with
          | ret r =>
            obtain ⟨rfl, h', tk, rfl, S1, kp⟩ := hr₂
            repeat (any_goals (first | assumption | wp_step))
            exact h _ _ S1 kp
          | _ => exact hr₂.elim
    | _ => exact hr.elim
end
end Px
end
section
set_option linter.all false
set_option maxRecDepth 100000
/-! PxS3: sorted(set(xs)), len(set(xs)) of texts. -/
namespace Px
open PySem PySem.Spec PyProof.Rows L2
/-! ### the order -/
def leS (x y : Str) : Prop := ¬ y.cps.toList < x.cps.toList
theorem str_ext {x y : Str} (h : x.cps.toList = y.cps.toList) : x = y := by
  cases x; cases y
  simp only at h
  rw [Array.toList_inj.mp h]
theorem leS_anti {x y : Str} (h : leS x y) (h' : leS y x) : x = y := str_ext (List.le_antisymm (List.not_lt.mp h) (List.not_lt.mp h'))
theorem leS_trans {x y z : Str} (h : leS x y) (h' : leS y z) : leS x z := fun c => by
  have a : x.cps.toList ≤ y.cps.toList := List.not_lt.mp h
  have b : y.cps.toList ≤ z.cps.toList := List.not_lt.mp h'
  exact absurd c (List.not_lt.mpr (List.le_trans a b))
theorem lt_leS {x y : Str} (h : ltS x y = true) : leS x y := fun c => List.lt_irrefl _ (List.lt_trans (of_decide_eq_true h) c)
theorem insS_perm (x : Str) : ∀ l : List Str, (insS x l).Perm (x :: l)
  | [] => .refl _
  | y :: ys => by
    unfold insS
    split
    · exact ((insS_perm x ys).cons y).trans (List.Perm.swap x y ys)
    · exact .refl _
theorem sortS_perm : ∀ l : List Str, (sortS l).Perm l
  | [] => .refl _
  | x :: xs => (insS_perm x (sortS xs)).trans ((sortS_perm xs).cons x)
theorem insS_pw (x : Str) : ∀ l : List Str, l.Pairwise leS → (insS x l).Pairwise leS
  | [], _ => by simp [insS]
  | y :: ys, h => by
    obtain ⟨h1, h2⟩ := List.pairwise_cons.mp h
    unfold insS
    split
    · rename_i c
      refine List.pairwise_cons.mpr ⟨fun z hz => ?_, insS_pw x ys h2⟩
      rcases List.mem_cons.mp ((insS_perm x ys).mem_iff.mp hz) with e | e
      · rw [e]; exact lt_leS c
      · exact h1 z e
    · rename_i c
      have c' : leS x y := fun q => c (decide_eq_true q)
      refine List.pairwise_cons.mpr ⟨fun z hz => ?_, h⟩
      rcases List.mem_cons.mp hz with e | e
      · rw [e]; exact c'
      · exact leS_trans c' (h1 z e)
theorem sortS_pw : ∀ l : List Str, (sortS l).Pairwise leS
  | [] => List.Pairwise.nil
  | x :: xs => insS_pw x _ (sortS_pw xs)
theorem sort_uniq {l m : List Str} (h : l.Perm m) (hl : l.Pairwise leS) (hm : m.Pairwise leS) : l = m := List.Perm.eq_of_pairwise (fun a b _ _ => leS_anti) hl hm h
theorem rising_pw : ∀ {l : List Str} {p : Str}, risingS p l = true → (p :: l).Pairwise leS
  | [], p, _ => by simp
  | x :: r, p, h => by
    have h : (!ltCps x.cps.toList p.cps.toList && risingS x r) = true := h
    rw [Bool.and_eq_true, Bool.not_eq_true', ltCps_eq, decide_eq_false_iff_not] at h
    have ih := rising_pw h.2
    refine List.pairwise_cons.mpr ⟨fun z hz => ?_, ih⟩
    rcases List.mem_cons.mp hz with e | e
    · rw [e]; exact h.1
    · exact leS_trans h.1 ((List.pairwise_cons.mp ih).1 z e)
theorem sorted_pw {l : List Str} (h : sortedS l = true) : l.Pairwise leS := by
  cases l with
  | nil => exact List.Pairwise.nil
  | cons x r => exact rising_pw h
/-- what sorted makes of the set's members -/
theorem sortU_of {zs ys l : List Str} (hl : l.Perm (addsK [] zs)) (hy : ys.Perm l) (hs : sortedS ys = true) : ys = sortU zs :=
  sort_uniq ((hy.trans hl).trans (sortS_perm _).symm) (sorted_pw hs) (sortS_pw _)
theorem sortU_ext {a b : List Str} (h : ∀ x, x ∈ a ↔ x ∈ b) : sortU a = sortU b := by
  refine sort_uniq ((sortS_perm _).trans (List.Perm.trans ?_ (sortS_perm _).symm)) (sortS_pw _) (sortS_pw _)
  refine (List.perm_ext_iff_of_nodup (addsK_nodup List.nodup_nil) (addsK_nodup List.nodup_nil)).mpr fun x => ?_
  rw [addsK_mem, addsK_mem, h]
theorem sortU_mem {a : List Str} {x : Str} : x ∈ sortU a ↔ x ∈ a := by
  unfold sortU
  rw [(sortS_perm _).mem_iff, addsK_mem]
  simp
theorem sortU_nodup {a : List Str} : (sortU a).Nodup := (sortS_perm _).nodup_iff.mpr (addsK_nodup List.nodup_nil)
theorem sortU_pw {a : List Str} : (sortU a).Pairwise leS := sortS_pw _

/-! ### a set as a tracked thing -/
section
variable {P : Program} {w : World}
def SetO (P : Program) (w : World) (a : Addr) (l : List Str) : HO := .ext fun h => SetK (skStr P w) h a l
theorem setO_new {H : Hp} {h : Heap} {a : Addr} {l : List Str} (R : SetK (skStr P w) h a l) : ObjOk P w H h a (SetO P w a l) := by
  obtain ⟨o, ho⟩ := R.ob
  exact ⟨R, ⟨o, ho⟩, fun h1 h2 p k => SetK.at p k⟩
end
section
variable {X : Cx} {pins : List (Addr × Obj)} {σ : L2.St} {H : Hp} {s : Shared} {a : Addr} {l : List Str}
theorem setO_get (I : Inv X pins σ H s) (ha : H a = some (SetO X.prog X.w a l)) : SetK (skStr X.prog X.w) s.heap a l := (I.hok a _ ha).1
end
theorem strs_vals {us : List Value} : ∀ {zs : List Str} {vs : List Value}, Vals (zs.map V.str) vs → ∀ (i : Nat) (v : Value), vs[i]? = some v → ∃ k, zs[i]? = some k ∧ Value.isStrOf k v = true
  | [], [], _, i, v, h => by simp at h
  | z :: zs, v0 :: vs, r, i, v, h => by
    cases r with
    | cons r1 rr =>
      cases i with
      | zero =>
        simp at h
        subst h
        obtain ⟨t, rfl⟩ := (show ∃ t, v0 = Value.str z t from r1)
        exact ⟨z, rfl, by simp [Value.isStrOf]⟩
      | succ i =>
        have h : vs[i]? = some v := by simpa using h
        obtain ⟨k, h1, h2⟩ := strs_vals (us := us) rr i v h
        exact ⟨k, by simpa using h1, h2⟩
/-- set(xs), xs a list or tuple of texts -/
def rSetS (K : PySem.W.Frag) (P : Program) (w : World) : List V → Hp → VK → Prop := fun xs H Q => ∃ a zs, xs = [.ref a] ∧ (SqL K H a (zs.map V.str) ∨ SqT K H a (zs.map V.str)) ∧ zs.length + 1 < scanBound ∧ ∀ p, H p = none → Q (.ref p) (upd H p (SetO P w p (addsK [] zs)))
theorem cr_setS {X : Cx} (hc : X.calm = true) : CallR X (.type "set") (rSetS X.K X.prog X.w) := by
  intro pins s σ H vs us Q I r h
  obtain ⟨a, zs, rfl, hs, hz, q⟩ := h
  rw [Vals.ref1 r]
  have hn : H s.heap.objs.size = none := I.hok.fresh (Nat.le_refl _)
  have fin : ∀ (h' : Heap) (tk : Nat), SetK (skStr X.prog X.w) h' s.heap.objs.size (addsK [] zs) → (∀ b o, s.heap.get? b = some o → h'.get? b = some o) → EP X pins σ Q (.ref s.heap.objs.size) { s with heap := h', toks := tk } := fun h' tk R k =>
    ⟨.ref s.heap.objs.size, _, I.laid (t' := tk) k (Nat.le_refl _) (setO_new R), rfl, q _ hn⟩
  rcases hs with hs | hs
  · obtain ⟨its, rv, pl, hlen⟩ := I.list hs
    refine call_setK_list (κ := skStr X.prog X.w) zs (I.ok.hd hc) pl.isList ?_ ?_ hz fin
    · rw [List.size_toArray, ← rv.length, List.length_map]
    · intro i v hv
      exact strs_vals (us := its) rv i v (by simpa using hv)
  · obtain ⟨its, rv, ht, hlen⟩ := I.tuple hs
    refine call_setK_tuple (κ := skStr X.prog X.w) zs (I.ok.hd hc) ht ?_ ?_ hz fin
    · rw [List.size_toArray, ← rv.length, List.length_map]
    · intro i v hv
      exact strs_vals (us := its) rv i v (by simpa using hv)
theorem strs_are {P : Program} {w : World} : ∀ (es : List (Int × Value)), ElemsOf (PySem.strKind P w) es → StrsAre (es.map (·.2)) (es.map (skStr P w).of)
  | [], _ => .nil
  | e :: es, h => by
    obtain ⟨⟨k, h1, _⟩, _⟩ := h e List.mem_cons_self
    obtain ⟨t, h2⟩ := Value.isStrOf_shape (x := k) (v := e.2) h1
    have e1 : (skStr P w).of e = k := (skStr P w).key_is k _ h1
    rw [List.map_cons, List.map_cons, e1, h2]
    exact .cons k t (strs_are es fun x hx => h x (List.mem_cons_of_mem _ hx))
theorem strs_of_vals : ∀ (vs : List Value), (∀ v ∈ vs, ∃ k t, v = Value.str k t) → StrsAre vs (vs.map (fun v => match v with | .str x _ => x | _ => ⟨#[]⟩))
  | [], _ => .nil
  | v :: vs, h => by
    obtain ⟨k, t, rfl⟩ := h v List.mem_cons_self
    exact .cons k t (strs_of_vals vs fun u hu => h u (List.mem_cons_of_mem _ hu))
/-- sorted of a set of texts -/
theorem sorted_setK {P : Program} {w : World} {A : Around} {E : Value → Shared → Prop} {s : Shared} {a : Addr} {l : List Str} {Q : Value → Shared → Prop} (R : SetK (skStr P w) s.heap a l) (hh : A.handled = none)
    (hQ : ∀ s' p (out : Array Value) (c : Nat) (ys : List Str), (∀ b o, s.heap.get? b = some o → s'.heap.get? b = some o) → s'.gens = s.gens → s'.os = s.os → s.heap.objs.size ≤ p →
      s'.heap.get? p = some (seqObj "list" out c) → StrsAre out.toList ys → ys.Perm l → sortedS ys = true → Q (.ref p) s') :
    wpAny (model P w) A (call (.builtin "sorted") [.ref a]) Q E s := by
  obtain ⟨o, es, ep, t, r⟩ := R
  refine Calls.call_function_entry kind_sorted plain_sorted entry_sorted (args_sorted1 _) ?_
  unfold Builtin.«sorted»
  refine wpAny_bind (m := checkCount "sorted" 1 1 _) (wpAny_pure ?_)
  refine wpAny_bind (collect_set (A := A.in1) hh ⟨o, r.ho, r.ex.1, r.hd⟩ r.ft r.lt r.ri r.led fun s1 vs k1 hz g1 o1 pm => ?_)
  have hlen : vs.length ≤ sizeLine := by
    rw [pm.length_eq, List.length_map, Array.length_toList]
    exact fits_of_scanBound r.lt
  have hall : ∀ v ∈ vs, ∃ k t, v = Value.str k t := fun v hv => by
    obtain ⟨e, he, q⟩ := List.mem_map.mp (pm.mem_iff.mp hv)
    obtain ⟨⟨k, h1, _⟩, _⟩ := r.el e he
    obtain ⟨t, h2⟩ := Value.isStrOf_shape (x := k) (v := e.2) h1
    exact ⟨k, t, by rw [← q]; exact h2⟩
  have hS := strs_of_vals vs hall
  have hp : (vs.map (fun v => match v with | .str x _ => x | _ => (⟨#[]⟩ : Str))).Perm l := by
    have q := pm.map (fun v => match v with | .str x _ => x | _ => (⟨#[]⟩ : Str))
    rw [List.map_map] at q
    exact q.trans r.pm
  refine wpAny_bind (wpAny_newList ?_ hlen)
  have hoL : (s1.heap.push (seqObj "list" vs.toArray 0)).get? s1.heap.objs.size = some (seqObj "list" vs.toArray 0) := Heap.get?_push_size _ rfl
  refine wpAny_bind (wpAny_holding (wpAny_call_entry slot_list_sort ⟨_, hoL, rfl⟩ entry_list_sort (list_sort_treeKAny strKind_oneLt hoL hS.keysOf (fun v₁ v₂ rest e => keyKind_strs (by rw [← e]; exact hS)) hlen fun st' h1 h2 => ⟨_, rfl, ?_⟩) (args_list_sort _)))
  obtain ⟨ys, y1, y2, y3⟩ := sorted_out_str hS h1 h2
  obtain ⟨c, hc⟩ := sortedHeap_at (vs := vs) (out := (arrOf st').map (·.2)) hoL
  refine wpAny_pure ⟨_, rfl, hQ _ s1.heap.objs.size _ c ys (fun b u e => ?_) g1 o1 hz hc y1 (y2.trans hp) y3⟩
  have q := k1 b u e
  have hlt := Heap.lt_size q
  show (sortedHeap (s1.heap.push (seqObj "list" vs.toArray 0)) s1.heap.objs.size vs _).get? b = some u
  rw [sortedHeap_old (Nat.ne_of_lt hlt) (by rw [size_push']; exact Nat.lt_succ_of_lt hlt)]
  exact Heap.get?_push_of_some _ q
def rSortedS (P : Program) (w : World) : List V → Hp → VK → Prop := fun xs H Q => ∃ a l, xs = [.ref a] ∧ H a = some (SetO P w a l) ∧ l.length < scanBound ∧ ∀ p ys, H p = none → ys.Perm l → sortedS ys = true → Q (.ref p) (upd H p (.lst (ys.map V.str)))
theorem cr_sortedS {X : Cx} (hc : X.calm = true) : CallR X (.builtin "sorted") (rSortedS X.prog X.w) := by
  intro pins s σ H vs us Q I r h
  obtain ⟨a, l, rfl, ha, hl, q⟩ := h
  rw [Vals.ref1 r]
  refine sorted_setK (setO_get I ha) (I.ok.hd hc) fun s' p out c ys k g o hp hg hout pm pw => ?_
  have hn : H p = none := I.hok.fresh hp
  have hlen : (ys.map V.str).length ≤ sizeLine := by rw [List.length_map, pm.length_eq]; exact fits_of_scanBound hl
  have J : Inv X pins σ (upd H p (.lst (ys.map V.str))) { s with heap := s'.heap, gens := s'.gens, drawn := s'.drawn, toks := s'.toks } :=
    I.call (ch := []) (Un.laid k hp hn) (I.hok.laid k hp ⟨hlen, out.toList, c, vals_of_strs hout, hg⟩) (by rw [g]; exact I.bare) (fun _ z => nomatch z)
  have e : s' = { s with heap := s'.heap, gens := s'.gens, drawn := s'.drawn, toks := s'.toks } := by
    cases s'
    cases s
    cases o
    rfl
  rw [e]
  exact ⟨.ref p, _, J, rfl, q p ys hn pm pw⟩
def rLenS (P : Program) (w : World) : List V → Hp → VK → Prop := fun xs H Q => ∃ a l, xs = [.ref a] ∧ H a = some (SetO P w a l) ∧ Q (.int l.length) H
theorem cr_lenS {X : Cx} : CallR X (.builtin "len") (rLenS X.prog X.w) := by
  intro pins s σ H vs us Q I r h
  obtain ⟨a, l, rfl, ha, q⟩ := h
  rw [Vals.ref1 r]
  obtain ⟨o, es, ep, t, d⟩ := setO_get I ha
  refine call_len_set d.ho d.ex d.hd d.ft (by have := fits_of_scanBound d.lt; rw [sizeLine_eq] at this; omega) ?_
  refine ⟨.int l.length, H, (I.tok _), ⟨s.toks + 1, ?_⟩, q⟩
  rw [d.len]
end Px
end
section
set_option linter.all false
set_option maxRecDepth 100000
/-! PxS4: {elt for t0 in i0 if .. for t1 in i1 if ..}, elt a text: the walk. -/
namespace Px
open PySem PySem.Spec PyProof.Rows L2 PpSet
theorem turn_out (elt t0 i0 t1 i1 : Expr) (ifs0 ifs1 : List Expr) (scope : Scope) (pos : Pos) (it acc : Value) (env : PySem.Env) :
    compTurn (.SetComp elt [⟨t0, i0, ifs0, 0⟩, ⟨t1, i1, ifs1, 0⟩] scope pos) 0 it acc env = (do
      standAt i0.pos
      match ← pyNext it with
      | none => pure (.done .next)
      | some v =>
        letOwnedTupleGo t0 it v
        assign t0 env v
        let mut ok := true
        for c in ifs0 do
          if ok then ok ← isTrue c env (eval c env)
        if ok then
          let x ← eval i1 env
          standAt i1.pos
          let x ← foldedSetIterable i1 env x
          let _ ← runOwn (.compStart (.SetComp elt [⟨t0, i0, ifs0, 0⟩, ⟨t1, i1, ifs1, 0⟩] scope pos) 1 (← holding [x] (pyIter x)) acc env) env
        again (.compLoop (.SetComp elt [⟨t0, i0, ifs0, 0⟩, ⟨t1, i1, ifs1, 0⟩] scope pos) 0 it acc env)) := by rfl
theorem turn_in (elt t0 i0 t1 i1 : Expr) (ifs0 ifs1 : List Expr) (scope : Scope) (pos : Pos) (it acc : Value) (env : PySem.Env) :
    compTurn (.SetComp elt [⟨t0, i0, ifs0, 0⟩, ⟨t1, i1, ifs1, 0⟩] scope pos) 1 it acc env = (do
      standAt i1.pos
      match ← pyNext it with
      | none => pure (.done .next)
      | some v =>
        letOwnedTupleGo t1 it v
        assign t1 env v
        let mut ok := true
        for c in ifs1 do
          if ok then ok ← isTrue c env (eval c env)
        if ok then
          (do let v ← eval elt env; standAt elt.pos; let _ ← call (.builtin "set.add") [acc, v])
        again (.compLoop (.SetComp elt [⟨t0, i0, ifs0, 0⟩, ⟨t1, i1, ifs1, 0⟩] scope pos) 1 it acc env)) := by rfl
section
variable {prog : Program} {w : World} {A : Around} {R : Result → Shared → Prop} {s : Shared} {elt t0 i0 t1 i1 : Expr} {ifs0 ifs1 : List Expr} {scope : Scope} {pos : Pos} {it acc : Value} {env : PySem.Env}
theorem loop_out (hs : ∀ x, foldedSetIterable i1 env x = pure x) (I : Nat → Shared → Prop)
    (turn : ∀ n s, I n s → wpAny (model prog w) A (pyNext it) (fun r s₁ => match r with
      | none => R (.ok .next) s₁
      | some v => wpAny (model prog w) A (letOwnedTupleGo t0 it v) (fun _ s₁' => wpAny (model prog w) A (assign t0 env v) (fun _ s₂ =>
          wpAny (model prog w) A (forIn ifs0 true fun c r => if r = true then do let ok ← isTrue c env (eval c env); pure (ForInStep.yield ok) else pure (ForInStep.yield r)) (fun ok s₃ =>
            if ok = true then wpAny (model prog w) A (eval i1 env) (fun x s₄ => wpAny (model prog w) A (pyIter x) (fun it1 s₅ =>
              codeAny (model prog w) A (.compStart (.SetComp elt [⟨t0, i0, ifs0, 0⟩, ⟨t1, i1, ifs1, 0⟩] scope pos) 1 it1 acc env) (fun r s' => match r with
                | .ok _ => ∃ m, m < n ∧ I m s'
                | .error _ => False) s₅) (notedBy (model prog w) A env fun e s' => R (.error e) s') s₄) (notedBy (model prog w) A env fun e s' => R (.error e) s') s₃
            else ∃ m, m < n ∧ I m s₃) (notedBy (model prog w) A env fun e s' => R (.error e) s') s₂) (notedBy (model prog w) A env fun e s' => R (.error e) s') s₁') (notedBy (model prog w) A env fun e s' => R (.error e) s') s₁) (notedBy (model prog w) A env fun e s' => R (.error e) s') s)
    (n : Nat) (h : I n s) :
    codeAny (model prog w) A (.compLoop (.SetComp elt [⟨t0, i0, ifs0, 0⟩, ⟨t1, i1, ifs1, 0⟩] scope pos) 0 it acc env) R s := by
  refine codeAny_loop rfl I (fun n s hI => ?_) n h
  show wpAny _ A ((compTurn (.SetComp elt [⟨t0, i0, ifs0, 0⟩, ⟨t1, i1, ifs1, 0⟩] scope pos) 0 it acc env).onRaise (fun x => do noteFrame x env; theTreesLotGoes x)) _ _ s
  refine wpAny_noted ?_
  rw [turn_out]
  refine wpAny_bind (wpAny_standAt (wpAny_bind (wpAny_mono (turn n s hI) (fun r s₁ h₁ => ?_) fun _ _ h' => h')))
  cases r with
  | none => exact wpAny_pure h₁
  | some v =>
    refine wpAny_bind (wpAny_mono h₁ (fun _ s₁' h₁' => ?_) fun _ _ h' => h')
    refine wpAny_bind (wpAny_mono h₁' (fun _ s₂ h₂ => wpAny_bind (wpAny_mono h₂ (fun ok s₃ h₃ => ?_) fun _ _ h' => h')) fun _ _ h' => h')
    cases ok with
    | false => exact wpAny_pure ⟨rfl, h₃⟩
    | true =>
      refine wpAny_bind (wpAny_mono h₃ (fun x s₄ h₄ => ?_) fun _ _ h' => h')
      refine wpAny_bind (wpAny_standAt (wpAny_bind (wpAny_of_eq (hs x) (wpAny_bind (wpAny_holding (wpAny_mono h₄ (fun it1 s₅ h₅ => ?_) fun _ _ h' => h'))))))
      refine wpAny_bind (wpAny_runOwn ?_)
      rw [Around.mark_none]
      refine codeAny_mono h₅ fun r s' hr => ?_
      cases r with
      | ok f =>
        first
          | exact wpAny_pure ⟨rfl, hr⟩
          | exact wpAny_bind (wpAny_pure (wpAny_pure ⟨rfl, hr⟩))
      | error e => exact hr.elim
theorem loop_in (I : Nat → Shared → Prop)
    (turn : ∀ n s, I n s → wpAny (model prog w) A (pyNext it) (fun r s₁ => match r with
      | none => R (.ok .next) s₁
      | some v => wpAny (model prog w) A (letOwnedTupleGo t1 it v) (fun _ s₁' => wpAny (model prog w) A (assign t1 env v) (fun _ s₂ =>
          wpAny (model prog w) A (forIn ifs1 true fun c r => if r = true then do let ok ← isTrue c env (eval c env); pure (ForInStep.yield ok) else pure (ForInStep.yield r)) (fun ok s₃ =>
            if ok = true then wpAny (model prog w) A (eval elt env) (fun x s₄ =>
              wpAny (model prog w) A (call (.builtin "set.add") [acc, x]) (fun _ s₅ => ∃ m, m < n ∧ I m s₅) (notedBy (model prog w) A env fun e s' => R (.error e) s') s₄) (notedBy (model prog w) A env fun e s' => R (.error e) s') s₃
            else ∃ m, m < n ∧ I m s₃) (notedBy (model prog w) A env fun e s' => R (.error e) s') s₂) (notedBy (model prog w) A env fun e s' => R (.error e) s') s₁') (notedBy (model prog w) A env fun e s' => R (.error e) s') s₁) (notedBy (model prog w) A env fun e s' => R (.error e) s') s)
    (n : Nat) (h : I n s) :
    codeAny (model prog w) A (.compLoop (.SetComp elt [⟨t0, i0, ifs0, 0⟩, ⟨t1, i1, ifs1, 0⟩] scope pos) 1 it acc env) R s := by
  refine codeAny_loop rfl I (fun n s hI => ?_) n h
  show wpAny _ A ((compTurn (.SetComp elt [⟨t0, i0, ifs0, 0⟩, ⟨t1, i1, ifs1, 0⟩] scope pos) 1 it acc env).onRaise (fun x => do noteFrame x env; theTreesLotGoes x)) _ _ s
  refine wpAny_noted ?_
  rw [turn_in]
  refine wpAny_bind (wpAny_standAt (wpAny_bind (wpAny_mono (turn n s hI) (fun r s₁ h₁ => ?_) fun _ _ h' => h')))
  cases r with
  | none => exact wpAny_pure h₁
  | some v =>
    refine wpAny_bind (wpAny_mono h₁ (fun _ s₁' h₁' => ?_) fun _ _ h' => h')
    refine wpAny_bind (wpAny_mono h₁' (fun _ s₂ h₂ => wpAny_bind (wpAny_mono h₂ (fun ok s₃ h₃ => ?_) fun _ _ h' => h')) fun _ _ h' => h')
    cases ok with
    | false => exact wpAny_pure ⟨rfl, h₃⟩
    | true =>
      exact wpAny_bind (wpAny_bind (wpAny_mono h₃ (fun x s₄ h₄ => wpAny_bind (wpAny_standAt (wpAny_bind (wpAny_mono h₄ (fun _ s₅ h₅ => wpAny_pure (wpAny_pure ⟨rfl, h₅⟩)) fun _ _ h' => h')))) fun _ _ h' => h'))
theorem start_in (h0 : codeAny (model prog w) A (.compLoop (.SetComp elt [⟨t0, i0, ifs0, 0⟩, ⟨t1, i1, ifs1, 0⟩] scope pos) 1 it acc env) R s)
    (h : wpAny (model prog w) A (pyIter it) (fun it' s' => codeAny (model prog w) A (.compLoop (.SetComp elt [⟨t0, i0, ifs0, 0⟩, ⟨t1, i1, ifs1, 0⟩] scope pos) 1 it' acc env) R s')
      (notedBy (model prog w) A env fun x s' => R (.error x) s') s) :
    codeAny (model prog w) A (.compStart (.SetComp elt [⟨t0, i0, ifs0, 0⟩, ⟨t1, i1, ifs1, 0⟩] scope pos) 1 it acc env) R s := by
  refine codeAny_of_tree ?_
  show wpAny _ _ ((compStart (.SetComp elt [⟨t0, i0, ifs0, 0⟩, ⟨t1, i1, ifs1, 0⟩] scope pos) 1 it acc env).onRaise (fun x => do noteFrame x env; standAt theWindowsPlace)) _ _ s
  refine wpAny_notedAt ?_
  unfold compStart
  show wpAny _ _ (ask >>= _) _ _ s
  refine wpAny_bind (wpAny_askSetting (wpAny_ite ?_))
  split
  · first
      | exact wpAny_bind (wpAny_pure (wpAny_pure (And.intro rfl h0)))
      | exact wpAny_pure (And.intro rfl h0)
  · first
      | exact wpAny_bind (wpAny_rule (wpAny_bind (wpAny_standAt (wpAny_bind (wpAny_mono h (fun it' s' h' => wpAny_pure (And.intro rfl h')) fun _ _ x => x)))))
      | (refine wpAny_bind (wpAny_rule ?_); show wpAny _ _ (standAt i1.pos >>= _) _ _ s; exact wpAny_bind (wpAny_standAt (wpAny_bind (wpAny_mono h (fun it' s' h' => wpAny_pure (And.intro rfl h')) fun _ _ x => x))))
end
section
variable {X : Cx}
/-- set.add of a text -/
theorem add_ok {pins : List (Addr × Obj)} {σ : L2.St} {H : Hp} {s : Shared} {E : Value → Shared → Prop} {D : Addr} {l : List Str} {y : Str} {u : Value} {Q : Value → Shared → Prop} (I : Inv X pins σ H s) (hD : H D = some (SetO X.prog X.w D l)) (room : l.length + 1 < scanBound) (hu : RelV (.str y) u)
    (h : ∀ s', Inv X pins σ (upd H D (SetO X.prog X.w D (addK l y))) s' → Q .none s') : wpAny (model X.prog X.w) X.A (call (.builtin "set.add") [.ref D, u]) Q E s := by
  obtain ⟨t, rfl⟩ := (show ∃ t, u = Value.str y t from hu)
  refine setK_call (κ := skStr X.prog X.w) (k := y) (by show Value.isStrOf y (.str y t) = true; simp [Value.isStrOf]) (setO_get I hD) room fun h' sb new => ?_
  exact h _ (I.write (e := D) (t' := s.toks + 1) (by rw [hD]; trivial) (.inl rfl) (fun b u hb hu => (sb.2 b hb).trans hu) new.ob (setO_new new))
/-- the two loops, the set at D -/
def tSc2 (P : Program) (w : World) (wi : TI) (g : TG) (tt : TT) (wi1 : TI) (g1 : TG) (tt1 : TT) (te : TE) (vs vs1 : List Nat) : TE := fun σ H Q => wi σ H fun J H1 => ∀ D, H1 D = none → ∃ W : Nat → Nat → Hp → Prop, (∃ m, W 0 m (upd H1 D (SetO P w D []))) ∧ ∀ i m H, W i m H →
  (J.stop i H ∧ Q (.ref D) H) ∨ (J.go i H ∧ ∃ Nx : Hp → Prop, (∀ H', Nx H' → ∃ m', m' < m ∧ W (i + 1) m' H') ∧ ∀ x H', J.yld i H x H' → g x (L2.wipe σ vs) H' fun σ2 H2 => L2.wipe σ2 vs = L2.wipe σ vs ∧ tt σ2 H2 fun b H3 =>
    if b = true then wi1 σ2 H3 fun J1 H4 => ∃ W1 : Nat → Nat → Hp → Prop, (∃ m, W1 0 m H4) ∧ ∀ j k H, W1 j k H →
      (J1.stop j H ∧ Nx H) ∨ (J1.go j H ∧ ∃ Nx1 : Hp → Prop, (∀ H', Nx1 H' → ∃ k', k' < k ∧ W1 (j + 1) k' H') ∧ ∀ x H', J1.yld j H x H' → g1 x (L2.wipe σ2 vs1) H' fun σ3 H5 => L2.wipe σ3 vs1 = L2.wipe σ2 vs1 ∧ tt1 σ3 H5 fun b H6 =>
        if b = true then te σ3 H6 fun y H7 => ∃ l z, y = .str z ∧ H7 D = some (SetO P w D l) ∧ l.length + 1 < scanBound ∧ Nx1 (upd H7 D (SetO P w D (addK l z))) else Nx1 H6)
    else Nx H3)
theorem sc2_core {pins : List (Addr × Obj)} {s : Shared} {σ : L2.St} {H : Hp} {Q : VK} {elt tg iter tg1 iter1 : Expr} {ifs ifs1 : List Expr} {scope : Scope} {own : List (Str × Nat)} {vs1 : List Nat} {pos pos' : Pos} {wi wi1 : TI} {g g1 : TG} {tt tt1 : TT} {te : TE} {use : Option (Value → Sem Unit)} {Qf : Value → Shared → Prop}
    (hc : X.calm = true) (hN : X.N.Nodup) (I : Inv X pins σ H s) (hi : PI X tg iter wi) (ok : BlkOk X.N X.env.scope scope own) (hv : ∀ i ∈ vs1, i ∈ own.map (·.2))
    (hg : ∀ (s : Shared) (H : Hp) (C : Addr) (cl : List (Str × Addr)) (fp : List Addr), PG (X.blk s H scope (compEnvC scope cl C X.env) fp) tg g) (ht : ∀ (s : Shared) (H : Hp) (C : Addr) (cl : List (Str × Addr)) (fp : List Addr), PTs (X.blk s H scope (compEnvC scope cl C X.env) fp) ifs tt)
    (he : ∀ (s : Shared) (H : Hp) (C : Addr) (cl : List (Str × Addr)) (fp : List Addr), PE (X.blk s H scope (compEnvC scope cl C X.env) fp) elt te) (hs : ∀ x, foldedSetIterable iter X.env x = pure x)
    (hi1 : ∀ (s : Shared) (H : Hp) (C : Addr) (cl : List (Str × Addr)) (fp : List Addr), PI (X.blk s H scope (compEnvC scope cl C X.env) fp) tg1 iter1 wi1)
    (hg1 : ∀ (s : Shared) (H : Hp) (C : Addr) (cl : List (Str × Addr)) (fp : List Addr), PG (X.blk s H scope (compEnvC scope cl C X.env) fp) tg1 g1)
    (ht1 : ∀ (s : Shared) (H : Hp) (C : Addr) (cl : List (Str × Addr)) (fp : List Addr), PTs (X.blk s H scope (compEnvC scope cl C X.env) fp) ifs1 tt1)
    (hs1 : ∀ env x, foldedSetIterable iter1 env x = pure x)
    (h : tSc2 X.prog X.w wi g tt wi1 g1 tt1 te (own.map (·.2)) vs1 σ H Q)
    (hRR : ∀ D C s' m H', Inv X pins σ H' s' → Q (.ref D) H' → s'.heap.Ns C m → FpOk X pins H' C → compPost (model X.prog X.w) X.A X.xe use Qf (.ref D) C (.ok .next) s') :
    wpAny (model X.prog X.w) X.A (comprehension (.SetComp elt [⟨tg, iter, ifs, 0⟩, ⟨tg1, iter1, ifs1, 0⟩] scope pos) scope X.env pos' (newSet (.type "set")) false (eval iter X.env) use) Qf X.xe s := by
  have hfree : ∀ y ∈ scope.names, y.2 = .free → ∃ c, X.env.cells.lookup y.1 = some c := fun y hy e => by
    rcases ok.free y hy e with k | k
    · exact I.ok.has _ (.inl k)
    · exact I.ok.has _ (.inr k)
  refine wpAny_comprehension_free (use := use) rfl hs (closure_ok hfree) ok.kind (fun y hy e => by rw [ok.uniq y hy, e])
    (thn (hi.run pins s σ H _ I h) fun xv s1 hx => thn hx fun itv s2 h2 => ?_)
  obtain ⟨it, fp, tn, J, H2, e, I2, T, st2, f2, q⟩ := h2
  subst e
  refine newSet_ok (newEnv_comp ?_)
  generalize hD : s2.heap.objs.size = D
  have hDn : H2 D = none := I2.hok.fresh (Nat.le_of_eq hD)
  obtain ⟨W, ⟨m0, w0⟩, turn⟩ := q D hDn
  generalize hs3 : ({ s2 with heap := s2.heap.push { cls := .type "set", dict := none, data := .set #[] 0 (.fresh 0 0 (!X.w.params.followText "set-order")) } } : Shared) = s3
  have I3 : Inv X pins σ (upd H2 D (SetO X.prog X.w D [])) s3 := by
    rw [← hs3]
    refine I2.laid (t' := s2.toks) (fun b o e => Heap.get?_push_of_some _ e) (Nat.le_of_eq hD) ?_
    rw [← hD]
    exact setO_new (setK_new (Heap.get?_push_size _ rfl))
  have h3 : s3.heap = s2.heap.push { cls := .type "set", dict := none, data := .set #[] 0 (.fresh 0 0 (!X.w.params.followText "set-order")) } := by rw [← hs3]
  have sz : ∀ b ∈ fp, b < s2.heap.objs.size := fun b hb => by
    obtain ⟨o, e, _⟩ := T.obj _ _ st2 b hb
    exact Heap.lt_size e
  have f3 : ∀ b ∈ fp, FpOk X pins (upd H2 D (SetO X.prog X.w D [])) b ∧ b < s3.heap.objs.size := fun b hb => by
    have hlt := sz b hb
    refine ⟨⟨?_, (f2 b hb).2⟩, by rw [h3, Heap.size_push]; exact Nat.lt_succ_of_lt hlt⟩
    rw [upd_ne (by rw [← hD]; exact Nat.ne_of_lt hlt)]
    exact (f2 b hb).1
  have st3 : tn 0 s3.heap := T.keep _ _ _ st2 fun b _ o e => by rw [h3]; exact Heap.get?_push_of_some _ e
  have I4 := block_start I3 ok hN f3
  have pg := hg s3 (upd H2 D (SetO X.prog X.w D [])) s3.heap.objs.size (cellsFrom (s3.heap.objs.size + 1) scope.names (cloFrom X.env.cells scope.names [])) fp
  have pt := ht s3 (upd H2 D (SetO X.prog X.w D [])) s3.heap.objs.size (cellsFrom (s3.heap.objs.size + 1) scope.names (cloFrom X.env.cells scope.names [])) fp
  have pe := he s3 (upd H2 D (SetO X.prog X.w D [])) s3.heap.objs.size (cellsFrom (s3.heap.objs.size + 1) scope.names (cloFrom X.env.cells scope.names [])) fp
  have pi1 := hi1 s3 (upd H2 D (SetO X.prog X.w D [])) s3.heap.objs.size (cellsFrom (s3.heap.objs.size + 1) scope.names (cloFrom X.env.cells scope.names [])) fp
  have pg1 := hg1 s3 (upd H2 D (SetO X.prog X.w D [])) s3.heap.objs.size (cellsFrom (s3.heap.objs.size + 1) scope.names (cloFrom X.env.cells scope.names [])) fp
  have pt1 := ht1 s3 (upd H2 D (SetO X.prog X.w D [])) s3.heap.objs.size (cellsFrom (s3.heap.objs.size + 1) scope.names (cloFrom X.env.cells scope.names [])) fp
  show codeAny _ _ (.compStart (.SetComp elt [⟨tg, iter, ifs, 0⟩, ⟨tg1, iter1, ifs1, 0⟩] scope pos) 0 (.ref it) (.ref D) (compEnvC scope (cellsFrom (s3.heap.objs.size + 1) scope.names (cloFrom X.env.cells scope.names [])) s3.heap.objs.size X.env)) (compPost (model X.prog X.w) X.A X.xe use Qf (.ref D) s3.heap.objs.size) { s3 with heap := pushCells (s3.heap.push { cls := .type "dict", data := .dict #[] }) scope.names }
  have nfp : ∀ b ∈ fp, (upd H2 D (SetO X.prog X.w D [])) b = none := fun b hb => (f3 b hb).1.1
  generalize hce : compEnvC scope (cellsFrom (s3.heap.objs.size + 1) scope.names (cloFrom X.env.cells scope.names [])) s3.heap.objs.size X.env = ce at I4 pg pt pe pi1 pg1 pt1 ⊢
  have cL : ce.locals = s3.heap.objs.size := by subst hce; rfl
  generalize hH3 : upd H2 D (SetO X.prog X.w D []) = H3 at I3 I4 pg pt pe pi1 pg1 pt1 w0 nfp f3
  generalize hs4 : ({ s3 with heap := pushCells (s3.heap.push { cls := .type "dict", data := .dict #[] }) scope.names } : Shared) = s4 at I4 ⊢
  have st4 : tn 0 s4.heap := T.keep _ _ _ st3 fun b _ o e => by rw [← hs4]; exact pushCells_keeps _ _ _ _ (Heap.get?_push_of_some _ e)
  have stat : ∀ {σ' : L2.St} {H' : Hp} {s' : Shared}, Inv (X.blk s3 H3 scope ce fp) [] σ' H' s' → (∀ b ∈ fp, H' b = none) → ∀ b ∈ fp, FpOk (X.blk s3 H3 scope ce fp) [] H' b := fun {σ' H' s'} I' hn b hb =>
    ⟨hn b hb, (I'.ok.exf b hb).1, I'.ok.exfs b hb, .inl hb, fun x c e => (I'.ok.exf b hb).2 x c e, fun p hp => absurd (show p ∈ ([] : List (Addr × Obj)) ++ [] from hp) (by simp)⟩
  have loop : codeAny (model X.prog X.w) X.A (.compLoop (.SetComp elt [⟨tg, iter, ifs, 0⟩, ⟨tg1, iter1, ifs1, 0⟩] scope pos) 0 (.ref it) (.ref D) ce) (compPost (model X.prog X.w) X.A X.xe use Qf (.ref D) s3.heap.objs.size) s4 := by
    refine loop_out (hs1 ce) (fun n s' => ∃ i H', Inv (X.blk s3 H3 scope ce fp) [] (L2.wipe σ (own.map (·.2))) H' s' ∧ tn i s'.heap ∧ (∀ b ∈ fp, H' b = none) ∧ W i n H') ?_ m0 ⟨0, H3, I4, st4, nfp, w0⟩
    rintro n s5 ⟨i, H5, I5, st5, n5, w5⟩
    rcases turn i n H5 w5 with ⟨stop, qq⟩ | ⟨go, Nx, hNx, step⟩
    · have td := T.done (X.blk s3 H3 scope ce fp) rfl rfl rfl hc i [] s5 _ H5 (fun _ _ => False) I5 (stat I5 n5) st5 stop
      refine thnF td fun r s6 ⟨hr, I6⟩ => ?_
      subst hr
      have I7 : Inv X pins σ H5 s6 := I3.call' (ch := fp) I6.os I6.base I6.hok I6.bare fun b hb => ⟨(f3 b hb).1.2.2.2.1, (f3 b hb).1.2.1, (f3 b hb).1.2.2.2.2.1, (f3 b hb).1.2.2.2.2.2⟩
      have nC : H5 s3.heap.objs.size = none := by
        have z : H5 ce.locals = none := I6.free
        rw [cL] at z
        exact z
      obtain ⟨m, hn, _⟩ := I6.loc
      have hn : s6.heap.Ns ce.locals m := hn
      rw [cL] at hn
      exact hRR D s3.heap.objs.size s6 m H5 I7 qq hn (I3.fpOk (Nat.le_refl _) nC)
    · have ti := T.item (X.blk s3 H3 scope ce fp) rfl rfl rfl hc i [] s5 _ H5 (fun _ _ => False) I5 (stat I5 n5) st5 go
      refine thnF ti fun r s6 ⟨u, hr, h6⟩ => ?_
      subst hr
      refine thnF h6 fun _ s7 ⟨x, H7, I7, r7, y7, st7, n7⟩ => ?_
      have I7' := I7.pinned (stat I7 n7) (T.obj _ _ st7)
      refine thnF (pg.run _ s7 _ H7 x u _ I7' r7 (step x H7 y7)) fun _ s8 ⟨σ8, H8, I8, hw8, q8⟩ => ?_
      refine thnF (pt.run _ s8 σ8 H8 _ I8 q8) fun b s9 ⟨H9, I9, q9⟩ => ?_
      have fin : ∀ {σ9 : L2.St} {s' : Shared} {H' : Hp}, Inv (X.blk s3 H3 scope ce fp) ([] ++ pinsAt fp s7.heap) σ9 H' s' → (L2.wipe σ (own.map (·.2))).length = σ9.length → (∀ (j : Nat) v, (L2.wipe σ (own.map (·.2)))[j]? = some (some v) → σ9[j]? = some (some v)) → Nx H' →
          ∃ m, m < n ∧ ∃ i H', Inv (X.blk s3 H3 scope ce fp) [] (L2.wipe σ (own.map (·.2))) H' s' ∧ tn i s'.heap ∧ (∀ b ∈ fp, H' b = none) ∧ W i m H' := fun {σ9 s' H'} I' hl hk nx => by
        obtain ⟨m', hm, w'⟩ := hNx H' nx
        have pin' : ∀ b ∈ fp, ∀ o, s7.heap.get? b = some o → s'.heap.get? b = some o ∧ H' b = none := fun b hb o e =>
          let z := I'.pin (b, o) (List.mem_append_right _ (List.mem_append_right _ (mem_pinsAt hb e)))
          ⟨z.1, z.2.1⟩
        refine ⟨m', hm, i + 1, H', (I'.unpinned (pins := [])).weak hl hk, T.keep _ _ _ st7 fun b hb o e => (pin' b hb o e).1, fun b hb => ?_, w'⟩
        obtain ⟨o, e, _⟩ := T.obj _ _ st7 b hb
        exact (pin' b hb o e).2
      have hl8 : (L2.wipe σ (own.map (·.2))).length = σ8.length := by rw [← hw8, wipe_length]
      have hk8 : ∀ (j : Nat) v, (L2.wipe σ (own.map (·.2)))[j]? = some (some v) → σ8[j]? = some (some v) := fun j v e => by
        rw [← hw8] at e
        exact (wipe_some e).1
      have hk9 : ∀ (j : Nat) v, (L2.wipe σ (own.map (·.2)))[j]? = some (some v) → (L2.wipe σ8 vs1)[j]? = some (some v) := fun j v e => by
        rw [← hw8] at e
        obtain ⟨e1, e2⟩ := wipe_some e
        rw [wipe_out fun z => e2 (hv j z)]
        exact e1
      cases b with
      | false =>
        simp only [Bool.false_eq_true, if_false] at q9 ⊢
        exact fin I9 hl8 hk8 q9
      | true =>
        simp only [if_true] at q9 ⊢
        refine thnF (pi1.run _ s9 σ8 H9 _ I9 q9) fun xv s10 hx => thnF hx fun itv s11 h11 => ?_
        obtain ⟨it1, fp1, tn1, J1, H11, e1, I11, T1, st11, f11, W1, ⟨m1, w1⟩, turn1⟩ := h11
        subst e1
        have stat1 : ∀ {H' : Hp}, (∀ b ∈ fp1, H' b = none) → ∀ b ∈ fp1, FpOk (X.blk s3 H3 scope ce fp) ([] ++ pinsAt fp s7.heap) H' b := fun hn b hb => ⟨hn b hb, (f11 b hb).2⟩
        have loop1 : codeAny (model X.prog X.w) X.A (.compLoop (.SetComp elt [⟨tg, iter, ifs, 0⟩, ⟨tg1, iter1, ifs1, 0⟩] scope pos) 1 (.ref it1) (.ref D) ce)
            (fun r s' => match r with
              | .ok _ => ∃ m, m < n ∧ ∃ i H', Inv (X.blk s3 H3 scope ce fp) [] (L2.wipe σ (own.map (·.2))) H' s' ∧ tn i s'.heap ∧ (∀ b ∈ fp, H' b = none) ∧ W i m H'
              | .error _ => False) s11 := by
          refine loop_in (fun k s' => ∃ j H', Inv (X.blk s3 H3 scope ce fp) ([] ++ pinsAt fp s7.heap) (L2.wipe σ8 vs1) H' s' ∧ tn1 j s'.heap ∧ (∀ b ∈ fp1, H' b = none) ∧ W1 j k H') ?_ m1 ⟨0, H11, I11.weak (wipe_length _ _) (fun j v e => (wipe_some e).1), st11, fun b hb => (f11 b hb).1, w1⟩
          rintro k s12 ⟨j, H12, I12, st12, n12, w12⟩
          rcases turn1 j k H12 w12 with ⟨stop1, nx1⟩ | ⟨go1, Nx1, hNx1, step1⟩
          · refine thnF (T1.done (X.blk s3 H3 scope ce fp) rfl rfl rfl hc j _ s12 (L2.wipe σ8 vs1) H12 (fun _ _ => False) I12 (stat1 n12) st12 stop1) fun r s13 ⟨hr, I13⟩ => ?_
            subst hr
            exact fin I13 (hl8.trans (wipe_length σ8 vs1).symm) hk9 nx1
          · refine thnF (T1.item (X.blk s3 H3 scope ce fp) rfl rfl rfl hc j _ s12 (L2.wipe σ8 vs1) H12 (fun _ _ => False) I12 (stat1 n12) st12 go1) fun r s13 ⟨u1, hr, h13⟩ => ?_
            subst hr
            refine thnF h13 fun _ s14 ⟨x1, H14, I14, r14, y14, st14, n14⟩ => ?_
            have I14' := I14.pinned (stat1 n14) (T1.obj _ _ st14)
            refine thnF (pg1.run _ s14 (L2.wipe σ8 vs1) H14 x1 u1 _ I14' r14 (step1 x1 H14 y14)) fun _ s15 ⟨σ15, H15, I15, hw15, q15⟩ => ?_
            refine thnF (pt1.run _ s15 σ15 H15 _ I15 q15) fun b1 s16 ⟨H16, I16, q16⟩ => ?_
            have fin1 : ∀ {s' : Shared} {H' : Hp}, Inv (X.blk s3 H3 scope ce fp) (([] ++ pinsAt fp s7.heap) ++ pinsAt fp1 s14.heap) σ15 H' s' → Nx1 H' → ∃ m, m < k ∧ ∃ j H', Inv (X.blk s3 H3 scope ce fp) ([] ++ pinsAt fp s7.heap) (L2.wipe σ8 vs1) H' s' ∧ tn1 j s'.heap ∧ (∀ b ∈ fp1, H' b = none) ∧ W1 j m H' := fun {s' H'} I' nx => by
              obtain ⟨m', hm, w'⟩ := hNx1 H' nx
              have pin' : ∀ b ∈ fp1, ∀ o, s14.heap.get? b = some o → s'.heap.get? b = some o ∧ H' b = none := fun b hb o e =>
                let z := I'.pin (b, o) (List.mem_append_right _ (List.mem_append_right _ (mem_pinsAt hb e)))
                ⟨z.1, z.2.1⟩
              refine ⟨m', hm, j + 1, H', I'.unpinned.weak (by rw [← hw15, wipe_length]) (fun j v e => by rw [← hw15] at e; exact (wipe_some e).1), T1.keep _ _ _ st14 fun b hb o e => (pin' b hb o e).1, fun b hb => ?_, w'⟩
              obtain ⟨o, e, _⟩ := T1.obj _ _ st14 b hb
              exact (pin' b hb o e).2
            cases b1 with
            | false =>
              simp only [Bool.false_eq_true, if_false] at q16 ⊢
              exact fin1 I16 q16
            | true =>
              simp only [if_true] at q16 ⊢
              refine thnF (pe.run _ s16 σ15 H16 _ I16 q16) fun z s17 ⟨yv, H17, I17, r17, l0, y0, ey, hD17, hz17, nx⟩ => ?_
              subst ey
              exact add_ok (X := X.blk s3 H3 scope ce fp) I17 hD17 hz17 r17 fun s18 I18 => fin1 I18 nx
        exact start_in loop1 (T1.self X.A 0 _ _ _ st11 loop1)
  exact codeAny_compStart_set loop (T.self X.A 0 _ _ _ st4 loop)
theorem pe_sc2 {elt tg iter tg1 iter1 : Expr} {ifs ifs1 : List Expr} {scope : Scope} {own : List (Str × Nat)} {vs1 : List Nat} {pos : Pos} {wi wi1 : TI} {g g1 : TG} {tt tt1 : TT} {te : TE} (hc : X.calm = true) (hN : X.N.Nodup) (hi : PI X tg iter wi) (ok : BlkOk X.N X.env.scope scope own) (hv : ∀ i ∈ vs1, i ∈ own.map (·.2))
    (hg : ∀ (s : Shared) (H : Hp) (C : Addr) (cl : List (Str × Addr)) (fp : List Addr), PG (X.blk s H scope (compEnvC scope cl C X.env) fp) tg g) (ht : ∀ (s : Shared) (H : Hp) (C : Addr) (cl : List (Str × Addr)) (fp : List Addr), PTs (X.blk s H scope (compEnvC scope cl C X.env) fp) ifs tt)
    (hi1 : ∀ (s : Shared) (H : Hp) (C : Addr) (cl : List (Str × Addr)) (fp : List Addr), PI (X.blk s H scope (compEnvC scope cl C X.env) fp) tg1 iter1 wi1)
    (hg1 : ∀ (s : Shared) (H : Hp) (C : Addr) (cl : List (Str × Addr)) (fp : List Addr), PG (X.blk s H scope (compEnvC scope cl C X.env) fp) tg1 g1) (ht1 : ∀ (s : Shared) (H : Hp) (C : Addr) (cl : List (Str × Addr)) (fp : List Addr), PTs (X.blk s H scope (compEnvC scope cl C X.env) fp) ifs1 tt1)
    (he : ∀ (s : Shared) (H : Hp) (C : Addr) (cl : List (Str × Addr)) (fp : List Addr), PE (X.blk s H scope (compEnvC scope cl C X.env) fp) elt te) (hs : ∀ x, foldedSetIterable iter X.env x = pure x) (hs1 : ∀ env x, foldedSetIterable iter1 env x = pure x) :
    PE X (.SetComp elt [⟨tg, iter, ifs, 0⟩, ⟨tg1, iter1, ifs1, 0⟩] scope pos) (tSc2 X.prog X.w wi g tt wi1 g1 tt1 te (own.map (·.2)) vs1) := by
  refine ⟨fun pins s σ H Q I h => ?_⟩
  rw [eval_SetComp]
  refine sc2_core hc hN I hi ok hv hg ht he hs hi1 hg1 ht1 hs1 h fun D C s' m H' I' q hn f => ⟨m, hn, fun h'' sb => ?_⟩
  obtain ⟨f0, f1, f2, f3, f4, f5⟩ := f
  exact ⟨.ref D, H', I'.turned (t' := s'.toks) (fun b o hb e => (sb.2 b hb).trans e) f0 f1 f3 f4 f5, rfl, q⟩
end
end Px
end
section
set_option linter.all false
set_option maxRecDepth 100000
/-! PxS5: sorted({elt for .. for ..}), sorted(set(xs)), len(set(xs)), reckoned. -/
namespace Px
open PySem PySem.Spec PyProof.Rows L2
section
variable {B : Base} {k : Nat} {N : List Str} {sc : Scp} {e : Expr} {es : List Expr} {pos : Pos} {tg : Expr}
def tWx (B : Base) (m : Env → Sto → R (List T × Option Nat)) : TI := fun σ H Q => ∃ ψ, tW (B.wi ψ) m σ H Q
theorem ex_w {X : Cx} {tg e : Expr} {m : Env → Sto → R (List T × Option Nat)} (h : ∀ ψ, PI X tg e (tW (B.wi ψ) m)) : PI X tg e (tWx B m) := ⟨fun pins s σ H Q I ⟨ψ, q⟩ => (h ψ).run pins s σ H Q I q⟩
theorem wipe_once (g : Tg) (vs : List Nat) (hix : ∀ i ∈ g.ix, i ∈ vs) {σ σ' : L2.St} (hw : ∀ ws : List Nat, (∀ i ∈ g.ix, i ∈ ws) → L2.wipe σ' ws = L2.wipe (L2.wipe σ vs) ws) : L2.wipe σ' vs = L2.wipe σ vs := by
  rw [hw vs hix]
  have := wipe_eq (L2.wipe σ vs) vs
  rw [this, wipe_eq]
  apply List.ext_getElem?
  intro j
  rw [wipe_get, wipe_get]
  split
  · cases σ[j]? <;> rfl
  · rfl
open Classical in
theorem sc2_read {g g1 : Tg} {vs vs1 : List Nat} {mi mi1 : Env → Sto → R (List T × Option Nat)} {mc mc1 : Env → Sto → R Bool} {me : Env → Sto → R T} (hix : ∀ i ∈ g.ix, i ∈ vs) (hix1 : ∀ i ∈ g1.ix, i ∈ vs1) (σ : L2.St) (H : Hp) (Q : VK) {φ : List Addr} {ρ : Env} {S : Sto}
    (hS : RelS B.K B.mg B.hid φ S H) (hE : RelE B.K B.mg B.hid φ H ρ σ)
    (hp : Post B same φ H ((mi ρ S).bind fun xl S => compS2 xl.2 S (body0 g vs mc mi1 g1 vs1 mc1 me ρ) xl.1 [] S) (fun zs H1 => ∀ D, H1 D = none → Q (.ref D) (upd H1 D (SetO B.P B.w D (addsK [] zs))))) :
    tSc2 B.P B.w (tW B mi) (tgI B g) (tTx B mc) (tWx B mi1) (tgI B g1) (tTx B mc1) (tIx B me) vs vs1 σ H Q := by
  cases hx : mi ρ S with
  | bad => simp only [hx, R.bind] at hp; exact hp.elim
  | exc => simp only [hx, R.bind] at hp; exact hp.elim
  | ok xl S1 =>
    obtain ⟨xs, l⟩ := xl
    simp only [hx, R.bind_ok] at hp
    refine ⟨φ, ρ, S, hS, hE, ?_⟩
    rw [hx]
    intro φ1 H1 J e1 hS1 hJ D hD
    generalize hbd : body0 g vs mc mi1 g1 vs1 mc1 me ρ = body at hp
    have hp1 := hp.later e1
    have hE1 : RelE B.K B.mg (D :: B.hid) φ1 (upd H1 D (SetO B.P B.w D [])) ρ σ := (hE.ext e1).hide hD
    have hS2 : RelS B.K B.mg (D :: B.hid) φ1 S1 (upd H1 D (SetO B.P B.w D [])) := hS1.hide hD
    have hψ : ∀ a ∈ D :: B.hid, a ∈ B.hid ∨ H1 a = none := fun a ha => (List.mem_cons.mp ha).elim (fun z => .inr (by rw [z]; exact hD)) .inl
    have hDm : D ∈ D :: B.hid := List.mem_cons_self
    -- a write at D is none that Ext from the start sees
    have wr : ∀ {φ' : List Addr} {H' : Hp} {o : HO}, Ext φ1 H1 φ' H' → Ext φ1 H1 φ' (upd H' D o) := fun {φ' H' o} x => ⟨x.pre, fun b u hb hn => by
      rw [upd_ne (ne_of_none hb hD)]
      exact x.keep b u hb hn, x.new⟩
    have notLib : ∀ {H' : Hp} {zs : List Str}, H' D = some (SetO B.P B.w D zs) → (∃ o, H' sysModules = some (.frz o (.ext fun _ => True))) → ∀ o f, H' D ≠ some (.frz o (.ext f)) := fun {H' zs} h _ o f z => by
      rw [h] at z; cases z
    refine ⟨fun i m H' => ∃ φ' S' acc, Ext φ1 H1 φ' H' ∧ RelS B.K B.mg (D :: B.hid) φ' S' H' ∧ RelE B.K B.mg (D :: B.hid) φ' H' ρ σ ∧ H' D = some (SetO B.P B.w D (addsK [] acc)) ∧ stays l S1 S' ∧ i ≤ xs.length ∧ m = xs.length - i ∧
      Post B same φ1 H1 (compS2 l S1 body (xs.drop i) acc S') (fun zs H1 => ∀ D, H1 D = none → Q (.ref D) (upd H1 D (SetO B.P B.w D (addsK [] zs)))), ⟨xs.length, φ1, S1, [], Ext.upd hD, hS2, hE1, upd_same, by cases l <;> first | exact rfl | exact True.intro, Nat.zero_le _, rfl, hp1⟩, ?_⟩
    rintro i m H' ⟨φ', S', acc, x', r', re', hD', st, hi, rfl, hq⟩
    have hwk := hJ (D :: B.hid) φ' S' H' hψ x'.w r' st i
    by_cases hlt : i < xs.length
    · right
      obtain ⟨hgo, hy⟩ := hwk.1 xs[i] (List.getElem?_eq_getElem hlt)
      generalize hNx : (fun H'' : Hp => ∃ φ'' S'' acc, Ext φ1 H1 φ'' H'' ∧ RelS B.K B.mg (D :: B.hid) φ'' S'' H'' ∧ RelE B.K B.mg (D :: B.hid) φ'' H'' ρ σ ∧ H'' D = some (SetO B.P B.w D (addsK [] acc)) ∧ stays l S1 S'' ∧
        Post B same φ1 H1 (compS2 l S1 body (xs.drop (i + 1)) acc S'') (fun zs H1 => ∀ D, H1 D = none → Q (.ref D) (upd H1 D (SetO B.P B.w D (addsK [] zs))))) = Nx
      refine ⟨hgo, Nx, ?_, ?_⟩
      · intro H'' h
        rw [← hNx] at h
        obtain ⟨φ'', S'', acc, a1, a2, a3, a4, a5, a6⟩ := h
        exact ⟨xs.length - (i + 1), by omega, φ'', S'', acc, a1, a2, a3, a4, a5, by omega, rfl, a6⟩
      · intro x H2 hyl
        obtain ⟨y1, y2, y3⟩ := hy x H2 hyl
        rw [List.drop_eq_getElem_cons hlt] at hq
        unfold compS2 at hq
        have hDφ : D ∉ φ' := (r'.hid D hDm).1
        have hb0 : body xs[i] acc S' = (R.opt (tgt g xs[i] (wipe ρ vs) S') S').bind fun ρ1 S => (mc ρ1 S).bind fun k S => if k then (mi1 ρ1 S).bind fun yl S => compS yl.2 S (body1 g1 vs1 mc1 me ρ1) yl.1 acc S else .ok acc S := by
          rw [← hbd]
          rfl
        rw [hb0] at hq
        cases ht2 : tgt g xs[i] (wipe ρ vs) S' with
        | none => rw [ht2] at hq; exact hq.elim
        | some ρ1 =>
          simp only [ht2, R.opt_some, R.bind_ok] at hq
          refine ⟨D :: B.hid, φ', wipe ρ vs, S', xs[i], ρ1, y2, (re'.ext y1).wipe vs, y3, ht2, fun σ' rσ hw => ⟨wipe_once g vs hix hw, ?_⟩⟩
          refine ⟨D :: B.hid, φ', ρ1, S', y2, rσ, ?_⟩
          cases hc : mc ρ1 S' with
          | bad => simp only [hc, R.bind] at hq; exact hq.elim
          | exc => simp only [hc, R.bind] at hq; exact hq.elim
          | ok c S4 =>
            simp only [hc, R.bind_ok] at hq
            intro φ4 H4 c' e4 hS4 hcc
            cases hcc
            cases c with
            | false =>
              simp only [Bool.false_eq_true, if_false, R.bind_ok] at hq ⊢
              split at hq
              · rename_i hst
                rw [← hNx]
                exact ⟨φ4, S4, acc, x'.trans (y1.trans e4), hS4, re'.ext (y1.trans e4), (y1.trans e4).keep D _ hD' hDφ, hst, hq⟩
              · exact hq.elim
            | true =>
              simp only [if_true] at hq ⊢
              cases hm1 : mi1 ρ1 S4 with
              | bad => simp only [hm1, R.bind] at hq; exact hq.elim
              | exc => simp only [hm1, R.bind] at hq; exact hq.elim
              | ok yl S5 =>
                obtain ⟨ys, l1⟩ := yl
                simp only [hm1, R.bind_ok] at hq
                refine ⟨D :: B.hid, φ4, ρ1, S4, hS4, rσ.ext e4, ?_⟩
                rw [hm1]
                intro φ5 H5 J1 e5 hS5 hJ1
                have ee := y1.trans (e4.trans e5)
                have hD5 : H5 D = some (SetO B.P B.w D (addsK [] acc)) := ee.keep D _ hD' hDφ
                have hS5 : RelS B.K B.mg (D :: B.hid) φ5 S5 H5 := hS5
                have re5 : RelE B.K B.mg (D :: B.hid) φ5 H5 ρ σ := re'.ext ee
                have rs5 : RelE B.K B.mg (D :: B.hid) φ5 H5 ρ1 σ' := rσ.ext (e4.trans e5)
                have x5 : Ext φ1 H1 φ5 H5 := x'.trans ee
                refine ⟨fun j k H' => ∃ φ' S' acc', Ext φ1 H1 φ' H' ∧ ExtW (D :: B.hid) φ5 H5 φ' H' ∧ RelS B.K B.mg (D :: B.hid) φ' S' H' ∧ H' D = some (SetO B.P B.w D (addsK [] acc')) ∧ stays l1 S5 S' ∧ j ≤ ys.length ∧ k = ys.length - j ∧
                  Post B same φ1 H1 ((compS l1 S5 (body1 g1 vs1 mc1 me ρ1) (ys.drop j) acc' S').bind fun acc'' S'' => if stays l S1 S'' then compS2 l S1 body (xs.drop (i + 1)) acc'' S'' else .bad)
                    (fun zs H1 => ∀ D, H1 D = none → Q (.ref D) (upd H1 D (SetO B.P B.w D (addsK [] zs)))),
                  ⟨ys.length, φ5, S5, acc, x5, Ext.refl.w, hS5, hD5, by cases l1 <;> first | exact rfl | exact True.intro, Nat.zero_le _, rfl, hq⟩, ?_⟩
                rintro j kk H6 ⟨φ6, S6, acc6, x6, w6, r6, hD6, st6, hj, rfl, hq6⟩
                have hwk1 := hJ1 (D :: B.hid) φ6 S6 H6 (fun a ha => .inl ha) w6 r6 st6 j
                have hDφ6 : D ∉ φ6 := (r6.hid D hDm).1
                by_cases hlt1 : j < ys.length
                · right
                  obtain ⟨hgo1, hy1⟩ := hwk1.1 ys[j] (List.getElem?_eq_getElem hlt1)
                  refine ⟨hgo1, fun H'' => ∃ φ' S' acc', Ext φ1 H1 φ' H'' ∧ ExtW (D :: B.hid) φ5 H5 φ' H'' ∧ RelS B.K B.mg (D :: B.hid) φ' S' H'' ∧ H'' D = some (SetO B.P B.w D (addsK [] acc')) ∧ stays l1 S5 S' ∧
                    Post B same φ1 H1 ((compS l1 S5 (body1 g1 vs1 mc1 me ρ1) (ys.drop (j + 1)) acc' S').bind fun acc'' S'' => if stays l S1 S'' then compS2 l S1 body (xs.drop (i + 1)) acc'' S'' else .bad)
                      (fun zs H1 => ∀ D, H1 D = none → Q (.ref D) (upd H1 D (SetO B.P B.w D (addsK [] zs)))), ?_, ?_⟩
                  · rintro H'' ⟨φ'', S'', acc, a1, a2, a3, a4, a5, a6⟩
                    exact ⟨ys.length - (j + 1), by omega, φ'', S'', acc, a1, a2, a3, a4, a5, by omega, rfl, a6⟩
                  · intro x1 H7 hyl1
                    obtain ⟨z1, z2, z3⟩ := hy1 x1 H7 hyl1
                    rw [List.drop_eq_getElem_cons hlt1] at hq6
                    unfold compS at hq6
                    have re6 : RelE B.K B.mg (D :: B.hid) φ6 H6 ρ1 σ' := rs5.extW (fun _ h => h) w6
                    cases hb : body1 g1 vs1 mc1 me ρ1 ys[j] S6 with
                    | bad => simp only [hb, R.bind] at hq6; exact hq6.elim
                    | exc => simp only [hb, R.bind] at hq6; exact hq6.elim
                    | ok o S8 =>
                      simp only [hb, R.bind_ok] at hq6
                      unfold body1 at hb
                      cases ht3 : tgt g1 ys[j] (wipe ρ1 vs1) S6 with
                      | none => rw [ht3] at hb; cases hb
                      | some ρ2 =>
                        simp only [ht3, R.opt_some, R.bind_ok] at hb
                        refine ⟨D :: B.hid, φ6, wipe ρ1 vs1, S6, ys[j], ρ2, z2, (re6.ext z1).wipe vs1, z3, ht3, fun σ3 rσ3 hw3 => ⟨wipe_once g1 vs1 hix1 hw3, ?_⟩⟩
                        refine ⟨D :: B.hid, φ6, ρ2, S6, z2, rσ3, ?_⟩
                        cases hc1 : mc1 ρ2 S6 with
                        | bad => simp only [hc1, R.bind] at hb; cases hb
                        | exc => simp only [hc1, R.bind] at hb; cases hb
                        | ok c1 S9 =>
                          simp only [hc1, R.bind_ok] at hb
                          intro φ9 H9 c1' e9 hS9 hcc1
                          cases hcc1
                          cases c1 with
                          | false =>
                            simp only [Bool.false_eq_true, if_false] at hb ⊢
                            cases hb
                            split at hq6
                            · rename_i hst
                              have e69 := z1.trans e9
                              exact ⟨φ9, _, acc6, x6.trans e69, w6.trans e69.w, hS9, e69.keep D _ hD6 hDφ6, hst.1, hq6⟩
                            · exact hq6.elim
                          | true =>
                            simp only [if_true] at hb ⊢
                            cases hv : me ρ2 S9 with
                            | bad => simp only [hv, R.bind] at hb; cases hb
                            | exc => simp only [hv, R.bind] at hb; cases hb
                            | ok t S10 =>
                              simp only [hv, R.bind_ok] at hb
                              refine ⟨D :: B.hid, φ9, ρ2, S9, hS9, rσ3.ext e9, ?_⟩
                              rw [hv]
                              intro φ10 H10 y e10 hS10 ry
                              cases t with
                              | str z =>
                                cases hb
                                cases ry
                                split at hq6
                                · rename_i hst
                                  have e610 := z1.trans (e9.trans e10)
                                  have hD10 : H10 D = some (SetO B.P B.w D (addsK [] acc6)) := e610.keep D _ hD6 hDφ6
                                  have hlen := addsK_len (ks := acc6) (l := ([] : List Str))
                                  have hsb : scanBound = 4096 := rfl
                                  rw [List.length_nil] at hlen
                                  refine ⟨addsK [] acc6, z, rfl, hD10, by omega, φ10, S8, acc6 ++ [z], wr (x6.trans e610), (w6.trans e610.w).wr hDm, hS10.chg (fun _ f q => by rw [hD10] at q; cases q), ?_, hst.1, hq6⟩
                                  rw [upd_same, addsK_app]
                                  rfl
                                · exact hq6.elim
                              | _ => cases hb
                · left
                  refine ⟨hwk1.2 (Nat.le_of_not_lt hlt1), ?_⟩
                  rw [List.drop_eq_nil_of_le (by omega)] at hq6
                  unfold compS at hq6
                  simp only [R.bind_ok] at hq6
                  split at hq6
                  · rename_i hst
                    rw [← hNx]
                    exact ⟨φ6, S6, acc6, x6, r6, re5.extW (fun _ h => h) w6, hD6, hst, hq6⟩
                  · exact hq6.elim
    · left
      refine ⟨hwk.2 (Nat.le_of_not_lt hlt), ?_⟩
      rw [List.drop_eq_nil_of_le (by omega)] at hq
      unfold compS2 at hq
      have key := hq φ' (del H' D) acc ⟨x'.pre, fun b u hb hn => ?_, x'.new⟩ (r'.gone (hS1.ninH hD) fun _ f z => by rw [hD'] at z; cases z) rfl D del_same
      · rw [upd_del hD'] at key
        exact key
      · rw [del_ne (ne_of_none hb hD)]
        exact x'.keep b u hb hn
theorem strs_rep {φ : List Addr} {H : Hp} : ∀ zs : List Str, B.reps φ H (zs.map V.str) (zs.map T.str)
  | [] => .nil
  | z :: zs => .cons (.str z) (strs_rep zs)
theorem rep_strs {φ : List Addr} {H : Hp} : ∀ {ts : List T} {vs : List V} {zs : List Str}, B.reps φ H vs ts → strsT ts = some zs → vs = zs.map V.str
  | [], vs, zs, r, h => by cases r; cases h; rfl
  | t :: ts, vs, zs, r, h => by
    cases r with
    | cons r1 rr =>
      cases t with
      | str x =>
        obtain ⟨ys, h1, rfl⟩ := Option.map_eq_some_iff.mp (show (strsT ts).map (x :: ·) = some zs from h)
        cases r1
        rw [rep_strs rr h1]
        rfl
      | _ => cases h
/-- what sorted leaves: the set and the list -/
theorem sort_post {X : Cx} (s : Sit B k N sc X) {φ : List Addr} {S : Sto} {H : Hp} {D : Addr} {zs : List Str} {Q : VK} (hS : RelS B.K B.mg B.hid φ S H) (hD : H D = none) (hz : zs.length ≤ 4000) (hp : Post B B.rep φ H (.ok (.vl ((sortU zs).map .str)) S) Q) :
    rSortedS B.P B.w [.ref D] (upd H D (SetO B.P B.w D (addsK [] zs))) Q := by
  have hlen := addsK_len (ks := zs) (l := ([] : List Str))
  have hsb : scanBound = 4096 := rfl
  rw [List.length_nil] at hlen
  refine ⟨D, addsK [] zs, rfl, upd_same, by omega, fun p ys hn pm pw => ?_⟩
  have e := sortU_of (List.Perm.refl (addsK [] zs)) pm pw
  subst e
  have hS1 := hS.upd (a := D) (o := SetO B.P B.w D (addsK [] zs)) hD
  have hS2 := hS1.upd (a := p) (o := .lst ((sortU zs).map V.str)) hn
  exact hp φ _ _ ((Ext.upd hD).trans (Ext.upd hn)) hS2 (.vl upd_same ⟨hS1.nin hn, hS1.ninH hn⟩ (strs_rep _))
/-- sorted({elt for tg in iter if .. for tg1 in iter1 if ..}) -/
theorem ie_ssc {elt iter tg1 iter1 : Expr} {ifs ifs1 : List Expr} {scope : Scope} {own : List (Str × Nat)} {g g1 : Tg} {vs1 : List Nat} {p sp : Pos} {mi mi1 : Env → Sto → R (List T × Option Nat)} {mc mc1 : Env → Sto → R Bool} {me : Env → Sto → R T} (hgl : sc.names.lookup ("sorted" : Str) = some .globalImplicit) (hm : B.mg "sorted" = none)
    (hi : II B k N sc tg iter mi) (ok : BlkOk N sc.toScope scope own) (hg : IG B k N (sc.blk scope) tg g) (hix : ∀ i ∈ g.ix, i ∈ own.map (·.2)) (ht : ∀ ψ, ITs (B.wi ψ) k N (sc.blk scope) ifs mc)
    (hi1 : ∀ ψ, II (B.wi ψ) k N (sc.blk scope) tg1 iter1 mi1) (hg1 : IG B k N (sc.blk scope) tg1 g1) (hix1 : ∀ i ∈ g1.ix, i ∈ vs1) (hv : ∀ i ∈ vs1, i ∈ own.map (·.2)) (ht1 : ∀ ψ, ITs (B.wi ψ) k N (sc.blk scope) ifs1 mc1)
    (he : ∀ ψ, IE (B.wi ψ) k N (sc.blk scope) elt me) (hs : ∀ env x, foldedSetIterable iter env x = pure x) (hs1 : ∀ env x, foldedSetIterable iter1 env x = pure x) :
    IE B k N sc (.Call (.Name "sorted" p) [.SetComp elt [⟨tg, iter, ifs, 0⟩, ⟨tg1, iter1, ifs1, 0⟩] scope sp] [] pos) (fun ρ S => ((mi ρ S).bind fun xl S => compS2 xl.2 S (body0 g (own.map (·.2)) mc mi1 g1 vs1 mc1 me ρ) xl.1 [] S).bind fun zs S => R.opt (gd (decide (zs.length ≤ 4000)) (.vl ((sortU zs).map .str))) S) := fun X s => by
  have C := cr_sortedS (X := X) s.calm
  have P2 := pe_sc2 (X := X) (elt := elt) (pos := sp) s.calm (by rw [s.hN]; exact s.nd) (hi X s) (by rw [s.hN, s.hsc]; exact ok) hv (fun s' H C cl fp => hg _ (s.blk scope s' H C cl fp))
    (fun s' H C cl fp => ex_t fun ψ => ht ψ _ ((s.blk scope s' H C cl fp).wi ψ)) (fun s' H C cl fp => ex_w fun ψ => hi1 ψ _ ((s.blk scope s' H C cl fp).wi ψ)) (fun s' H C cl fp => hg1 _ (s.blk scope s' H C cl fp))
    (fun s' H C cl fp => ex_t fun ψ => ht1 ψ _ ((s.blk scope s' H C cl fp).wi ψ)) (fun s' H C cl fp => ex_e fun ψ => he ψ _ ((s.blk scope s' H C cl fp).wi ψ)) (hs X.env) hs1
  refine PE.imp (pe_callB C (gl_of s hgl) (by rw [s.hmg]; exact hm) (by kernel_rfl) (pa_cons P2 pa_nil (star_head rfl)) (by decide) (by decide) (star_head rfl) rfl) fun σ H Q ⟨φ, ρ, S, hS, hE, hp⟩ => ?_
  rw [s.hP, s.hw] at *
  refine sc2_read hix hix1 σ H (fun v H1 => rSortedS B.P B.w [v] H1 Q) hS hE (hp.bind fun zs S1 φ1 H1 v _ e1 hS1 ev hp1 D hD => ?_)
  subst ev
  obtain ⟨hz, hp2⟩ := hp1.gd
  exact sort_post s hS1 hD (of_decide_eq_true hz) hp2
theorem strsV_of {t : T} {zs : List Str} (h : strsV t = some zs) : zs.length ≤ 4000 ∧ ∃ xs, (t = .vl xs ∨ t = .tup xs) ∧ strsT xs = some zs := by
  cases t with
  | vl xs =>
    obtain ⟨ys, h1, h2⟩ := Option.bind_eq_some_iff.mp (show (strsT xs).bind (fun zs => gd (decide (zs.length ≤ 4000)) zs) = some zs from h)
    obtain ⟨h3, rfl⟩ := gd_some h2
    exact ⟨of_decide_eq_true h3, xs, .inl rfl, h1⟩
  | tup xs =>
    obtain ⟨ys, h1, h2⟩ := Option.bind_eq_some_iff.mp (show (strsT xs).bind (fun zs => gd (decide (zs.length ≤ 4000)) zs) = some zs from h)
    obtain ⟨h3, rfl⟩ := gd_some h2
    exact ⟨of_decide_eq_true h3, xs, .inr rfl, h1⟩
  | _ => cases h
/-- f(set(e)): f sorted or len -/
theorem ie_sset {b : Bool} {x : Str} {p q qp : Pos} {m : Env → Sto → R T} (hx : x = if b then ("sorted" : Str) else ("len" : Str)) (hg : sc.names.lookup x = some .globalImplicit) (hm : B.mg x = none) (hg2 : sc.names.lookup ("set" : Str) = some .globalImplicit) (hm2 : B.mg "set" = none) (hs : isStar e = false) (h : IE B k N sc e m) :
    IE B k N sc (.Call (.Name x p) [.Call (.Name "set" q) [e] [] qp] [] pos) (fun ρ S => (m ρ S).bind fun x S => R.opt (setT b (vw S x)) S) := fun X s => by
  have inner := pe_callTy (X := X) (x := "set") (p := q) (pos := qp) (cr_setS s.calm) (gl_of s hg2) (by rw [s.hmg]; exact hm2) (by kernel_rfl) (pa_cons (h X s) pa_nil (star_head hs)) (by decide) (by decide) (star_head hs) rfl
  have key : ∀ (σ : L2.St) (H : Hp) (Q : VK), tI B (fun ρ S => (m ρ S).bind fun x S => R.opt (setT b (vw S x)) S) σ H Q → ∀ r : List V → Hp → VK → Prop, (∀ (φ : List Addr) (S : Sto) (H : Hp) (D : Addr) (zs : List Str), RelS B.K B.mg B.hid φ S H → H D = none → zs.length ≤ 4000 → Post B B.rep φ H (.ok (if b then T.vl ((sortU zs).map .str) else T.int (addsK [] zs).length) S) Q → r [.ref D] (upd H D (SetO B.P B.w D (addsK [] zs))) Q) →
      tI B m σ H (fun v H1 => rSetS B.K B.P B.w [v] H1 (fun v H2 => r [v] H2 Q)) := by
    intro σ H Q ⟨φ, ρ, S, hS, hE, hp⟩ r hr
    refine ⟨φ, ρ, S, hS, hE, hp.bind fun t S1 φ1 H1 v _ e1 hS1 rv hp1 => ?_⟩
    obtain ⟨u, hu, hp2⟩ := hp1.opt
    obtain ⟨zs, hz, rfl⟩ := Option.map_eq_some_iff.mp hu
    obtain ⟨hl, xs, hv, ht⟩ := strsV_of hz
    have hsb : scanBound = 4096 := rfl
    rcases hv with hv | hv
    · obtain ⟨a, vs, rfl, h3, h4⟩ := seen_list hS1 rv hv
      have e2 := rep_strs h4 ht
      subst e2
      exact ⟨a, zs, rfl, .inl (.of h3), by omega, fun D hD => hr φ1 S1 H1 D zs hS1 hD hl hp2⟩
    · obtain ⟨a, vs, rfl, h3, h4⟩ := seen_tup (φ := φ1) rv hv
      have e2 := rep_strs h4 ht
      subst e2
      exact ⟨a, zs, rfl, .inr h3, by omega, fun D hD => hr φ1 S1 H1 D zs hS1 hD hl hp2⟩
  cases b with
  | true =>
    rw [if_pos rfl] at hx
    subst hx
    refine PE.imp (pe_callB (cr_sortedS (X := X) s.calm) (gl_of s hg) (by rw [s.hmg]; exact hm) (by kernel_rfl) (pa_cons inner pa_nil (star_head rfl)) (by decide) (by decide) (star_head rfl) rfl) fun σ H Q hq => ?_
    rw [s.hP, s.hw, s.hK] at *
    exact key σ H Q hq (rSortedS B.P B.w) fun φ S H D zs hS hD hz hp => sort_post s hS hD hz hp
  | false =>
    rw [if_neg (by decide)] at hx
    subst hx
    refine PE.imp (pe_callB (cr_lenS (X := X)) (gl_of s hg) (by rw [s.hmg]; exact hm) (by kernel_rfl) (pa_cons inner pa_nil (star_head rfl)) (by decide) (by decide) (star_head rfl) rfl) fun σ H Q hq => ?_
    rw [s.hP, s.hw, s.hK] at *
    exact key σ H Q hq (rLenS B.P B.w) fun φ S H D zs hS hD hz hp => ⟨D, _, rfl, upd_same, hp φ _ _ (Ext.upd hD) (hS.upd hD) (.int _)⟩
end
end Px
end
section
set_option linter.all false
set_option maxRecDepth 100000
/-! PxZ1: list(zip(a, b)) of two lists. -/
namespace Px
open PySem PySem.Spec PyProof.Rows L2 PySem.W

/-- the pairs at as are new, in order -/
structure ZG (ps : List (Value × Value)) (lo : Addr) (h : Heap) (as : List Addr) : Prop where
  rise : as.Pairwise (· < ·)
  above : ∀ a ∈ as, lo ≤ a
  pairs : ∀ (j : Nat) (a : Addr), as[j]? = some a → ∃ k v, ps[j]? = some (k, v) ∧ h.get? a = some { cls := .type "tuple", data := .seq #[k, v] }
theorem ZG.there {ps : List (Value × Value)} {lo : Addr} {h : Heap} {as : List Addr} (g : ZG ps lo h as) {a : Addr} (ha : a ∈ as) : a < h.objs.size := by
  obtain ⟨j, hj⟩ := List.mem_iff_getElem?.mp ha
  obtain ⟨_, _, _, e⟩ := g.pairs j a hj
  exact Heap.lt_size e
/-- a zip of two lists at turn i, all its tuples kept -/
def ZipSt (z TI TO i1 i2 l1 l2 d : Addr) (xs ys : Array Value) (i : Nat) (h : Heap) : Prop :=
  IsPair h TI (.ref i1) (.ref i2) ∧ h.IsListIter i1 l1 i ∧ h.IsListIter i2 l2 i ∧ h.IsList l1 xs ∧ h.IsList l2 ys ∧
    ((IsZip h z TI TO .none ∧ ∃ a b, IsPair h TO a b) ∨ ∃ T f oT, IsZipHeld h z TI TO T f ∧ h.get? T = some oT ∧ T ≠ z ∧ T ≠ i1 ∧ T ≠ i2 ∧ T ≠ d)
section
variable {P : Program} {w : World} {A : Around} {E : Value → Shared → Prop} {s : Shared} {z TI TO i1 i2 l1 l2 d : Addr} {xs ys : Array Value} {i : Nat}
theorem ZipSt.keep {h h' : Heap} (st : ZipSt z TI TO i1 i2 l1 l2 d xs ys i h) (nd : d ∉ [z, TI, TO, i1, i2, l1, l2]) (hk : ∀ b o, b ≠ d → h.get? b = some o → h'.get? b = some o) : ZipSt z TI TO i1 i2 l1 l2 d xs ys i h' := by
  simp only [List.mem_cons, List.not_mem_nil, or_false, not_or] at nd
  obtain ⟨dz, dTI, dTO, di1, di2, dl1, dl2⟩ := nd
  obtain ⟨hTI, h1, h2, hl1, hl2, hz⟩ := st
  refine ⟨hk _ _ (Ne.symm dTI) hTI, h1.at fun o e => hk _ o (Ne.symm di1) e, h2.at fun o e => hk _ o (Ne.symm di2) e, hl1.at fun o e => hk _ o (Ne.symm dl1) e, hl2.at fun o e => hk _ o (Ne.symm dl2) e, ?_⟩
  rcases hz with ⟨hz, a, b, hTO⟩ | ⟨T, f, oT, hz, hT, r1, r2, r3, r4⟩
  · exact .inl ⟨hk _ _ (Ne.symm dz) hz, a, b, hk _ _ (Ne.symm dTO) hTO⟩
  · exact .inr ⟨T, f, oT, hk _ _ (Ne.symm dz) hz, hk _ _ r4 hT, r1, r2, r3, r4⟩
theorem zip_item {x y : Value} {Q : Option Value → Shared → Prop} (D : ZipApart z TI TO i1 i2 l1 l2) (st : ZipSt z TI TO i1 i2 l1 l2 d xs ys i s.heap) (hds : d < s.heap.objs.size) (ex : xs[i]? = some x) (ey : ys[i]? = some y)
    (hQ : ∀ h', ZipSt z TI TO i1 i2 l1 l2 d xs ys (i + 1) h' → IsPair h' s.heap.objs.size x y → h'.objs.size = s.heap.objs.size + 1 → (∀ c o, c ∉ [z, TO, i1, i2] → s.heap.get? c = some o → h'.get? c = some o) → Q (some (.ref s.heap.objs.size)) { s with heap := h' }) :
    wpAny (model P w) A (pyNext (.ref z)) Q E s := by
  obtain ⟨hTI, h1, h2, hl1, hl2, hz⟩ := st
  have lt : ∀ {c o}, s.heap.get? c = some o → s.heap.objs.size ≠ c := fun e => Nat.ne_of_gt (Heap.lt_size e)
  have n1 : s.heap.objs.size ≠ i1 := let ⟨_, e, _⟩ := h1; lt e
  have n2 : s.heap.objs.size ≠ i2 := let ⟨_, e, _⟩ := h2; lt e
  rcases hz with ⟨hz, a, b, hTO⟩ | ⟨T, f, oT, hz, hT, r1, r2, r3, r4⟩
  · refine wpAny_pyNext_zip_item D hz hTI hTO h1 h2 hl1 hl2 ex ey fun h' a1 a2 a3 a4 a5 a6 hk => ?_
    exact hQ h' ⟨hk _ _ D.TIz D.TITO D.TIi1 D.TIi2 hTI, a3, a4, hl1.at fun o e => hk _ o D.l1z D.l1TO D.l1i1 D.l1i2 e, hl2.at fun o e => hk _ o D.l2z D.l2TO D.l2i1 D.l2i2 e,
        .inr ⟨s.heap.objs.size, false, _, a1, a5, lt hz, n1, n2, Nat.ne_of_gt hds⟩⟩ a5 a6
      fun c o hc e => hk c o (fun x => hc (by simp [x])) (fun x => hc (by simp [x])) (fun x => hc (by simp [x])) (fun x => hc (by simp [x])) e
  · refine wpAny_pyNext_zip_item_held D hz hT hTI h1 h2 hl1 hl2 ex ey fun h' a1 a3 a4 a5 a6 hk => ?_
    exact hQ h' ⟨hk _ _ D.TIz D.TIi1 D.TIi2 hTI, a3, a4, hl1.at fun o e => hk _ o D.l1z D.l1i1 D.l1i2 e, hl2.at fun o e => hk _ o D.l2z D.l2i1 D.l2i2 e,
        .inr ⟨T, true, oT, a1, hk _ _ r1 r2 r3 hT, r1, r2, r3, r4⟩⟩ a5 a6
      fun c o hc e => hk c o (fun x => hc (by simp [x])) (fun x => hc (by simp [x])) (fun x => hc (by simp [x])) e
theorem zip_done {Q : Option Value → Shared → Prop} (hh : A.handled = none) (D : ZipApart z TI TO i1 i2 l1 l2) (st : ZipSt z TI TO i1 i2 l1 l2 d xs ys i s.heap) (hend : xs[i]? = none ∨ ys[i]? = none)
    (hQ : ∀ h', (∀ c o, c ∉ [z, TO, i1, i2] → s.heap.get? c = some o → h'.get? c = some o) → Q none { s with heap := h' }) :
    wpAny (model P w) A (pyNext (.ref z)) Q E s := by
  obtain ⟨hTI, h1, h2, hl1, hl2, hz⟩ := st
  rcases hz with ⟨hz, a, b, hTO⟩ | ⟨T, f, oT, hz, hT, r1, r2, r3, r4⟩
  · exact wpAny_pyNext_zip_end hh D hz hTI hTO h1 h2 hl1 hl2 hend fun h' hk => hQ h' fun c o hc e => hk c o (fun x => hc (by simp [x])) (fun x => hc (by simp [x])) (fun x => hc (by simp [x])) (fun x => hc (by simp [x])) e
  · exact wpAny_pyNext_zip_end_held hh D hz hT hTI h1 h2 hl1 hl2 hend fun h' hk => hQ h' fun c o hc e => hk c o (fun x => hc (by simp [x])) (fun x => hc (by simp [x])) (fun x => hc (by simp [x])) e
end
section
variable {P : Program} {w : World} {A : Around} {s : Shared} {R : Result → Shared → Prop} {z TI TO i1 i2 l1 l2 S lo : Addr} {xs ys : Array Value}
theorem zip_loop (hh : A.handled = none) (D : ZipApart z TI TO i1 i2 l1 l2) (nd : S ∉ [z, TI, TO, i1, i2, l1, l2]) (hSlo : S < lo) (hlo : ∀ c ∈ [z, TO, i1, i2], c < lo) (hn : min xs.size ys.size ≤ sizeLine) (res : Value) {h₁ : Heap}
    (hR : ∀ h' tk acc c as, (∀ b o, b ∉ [S, z, TO, i1, i2] → h₁.get? b = some o → h'.get? b = some o) → h'.get? S = some { cls := .type "list", dict := none, data := .seq acc c, slots := #[] } → as.length = min xs.size ys.size → ZG (xs.toList.zip ys.toList) lo h' as →
      acc.toList = as.map Value.ref → R (.ok (.ret res)) { s with heap := h', toks := tk }) :
    ∀ (k i : Nat) (h : Heap) (tk c : Nat) (acc : Array Value) (as : List Addr), min xs.size ys.size - i = k → i ≤ min xs.size ys.size → ZipSt z TI TO i1 i2 l1 l2 S xs ys i h → (∀ b o, b ∉ [S, z, TO, i1, i2] → h₁.get? b = some o → h.get? b = some o) →
      h.get? S = some { cls := .type "list", dict := none, data := .seq acc c, slots := #[] } → acc.toList = as.map Value.ref → as.length = i → ZG (xs.toList.zip ys.toList) lo h as → lo ≤ h.objs.size →
      codeAny (model P w) A (.builtin "list.extend.loop" ⟨[.ref S, .ref z, res], []⟩) R { s with heap := h, toks := tk } := by
  have nS : S ∉ [z, TO, i1, i2] := fun hm => nd (by simp only [List.mem_cons, List.not_mem_nil, or_false] at hm ⊢; rcases hm with e | e | e | e <;> simp [e])
  have sub : ∀ b, b ∉ [S, z, TO, i1, i2] → b ∉ [z, TO, i1, i2] := fun b hb hm => hb (List.mem_cons_of_mem _ hm)
  have nlo : ∀ b, lo ≤ b → b ∉ [z, TO, i1, i2] := fun b hb hm => absurd (hlo b hm) (Nat.not_lt.mpr hb)
  intro k
  induction k with
  | zero =>
    intro i h tk c acc as hk hi hst hkeep hS hacc hal hG hIs
    refine codeAny_builtin PySem.F.entry_extend_loop ?_
    rw [Around.under_plainId PySem.F.plain_extend_loop _]
    show wpAny _ A.in1 (pyNext (.ref z) >>= _) _ _ _
    have hend : xs[i]? = none ∨ ys[i]? = none := by
      rcases Nat.le_total xs.size ys.size with q | q
      · exact .inl (Array.getElem?_eq_none (by omega))
      · exact .inr (Array.getElem?_eq_none (by omega))
    refine wpAny_bind (zip_done (s := { s with heap := h, toks := tk }) (A := A.in1) hh D hst hend fun h' he => ?_)
    refine wpAny_pure (hR h' tk acc c as (fun b o h1 e => he b o (sub b h1) (hkeep b o h1 e)) (he S _ nS hS) (by omega) ⟨hG.rise, hG.above, fun j a hj => ?_⟩ hacc)
    obtain ⟨k, v, e1, e3⟩ := hG.pairs j a hj
    exact ⟨k, v, e1, he a _ (nlo a (hG.above a (List.mem_of_getElem? hj))) e3⟩
  | succ k ih =>
    intro i h tk c acc as hk hi hst hkeep hS hacc hal hG hIs
    have hlt : i < min xs.size ys.size := by omega
    have hsz : acc.size = i := by rw [← Array.length_toList, hacc, List.length_map, hal]
    refine codeAny_builtin PySem.F.entry_extend_loop ?_
    rw [Around.under_plainId PySem.F.plain_extend_loop _]
    show wpAny _ A.in1 (pyNext (.ref z) >>= _) _ _ _
    have ex := Array.getElem?_eq_getElem (xs := xs) (i := i) (by omega)
    have ey := Array.getElem?_eq_getElem (xs := ys) (i := i) (by omega)
    refine wpAny_bind (zip_item (s := { s with heap := h, toks := tk }) D hst (Heap.lt_size hS) ex ey fun h' hst' ht hz hkp => ?_)
    dsimp only at ht hz hkp ⊢
    have hS' := hkp S _ nS hS
    have up : ∀ b o, b ≠ S → h'.get? b = some o → (h'.update S (Obj.mapSeq (·.push (Value.ref h.objs.size)))).get? b = some o := fun b o hb e => (Heap.get?_update_other _ _ (Ne.symm hb)).trans e
    have hSl : S < h.objs.size := Heap.lt_size hS
    show wpAny _ A.in1 (updateSeq S (·.push (Value.ref h.objs.size)) >>= _) _ _ _
    refine wpAny_bind ?_
    refine wpAny_updateSeq hS' rfl (wpAny_pure ⟨plainId_quiet PySem.F.plain_extend_loop _, ih (i + 1) _ tk _ (acc.push (Value.ref h.objs.size)) (as ++ [h.objs.size]) (by omega) hlt (hst'.keep nd up)
      (fun b o h1 e => up b o (fun q => h1 (by simp [q])) (hkp b o (sub b h1) (hkeep b o h1 e))) (Heap.get?_update_self _ hS' rfl) (by rw [Array.toList_push, hacc, List.map_append]; rfl) (by rw [List.length_append, hal]; rfl) ⟨?_, ?_, ?_⟩ ?_⟩) (by rw [hsz]; omega) (by show (acc.push (Value.ref h.objs.size)).size ≤ sizeLine + 1; rw [Array.size_push, hsz]; omega)
    · refine List.pairwise_append.mpr ⟨hG.rise, List.pairwise_singleton _ _, fun a ha b hb => ?_⟩
      rw [List.mem_singleton.mp hb]
      exact hG.there ha
    · intro a ha
      rcases List.mem_append.mp ha with ha | ha
      · exact hG.above a ha
      · rw [List.mem_singleton.mp ha]; exact hIs
    · intro j b hj
      rcases Nat.lt_trichotomy j as.length with h1 | h1 | h1
      · rw [List.getElem?_append_left h1] at hj
        obtain ⟨kk, v, e1, e3⟩ := hG.pairs j b hj
        have hb := hG.above b (List.mem_of_getElem? hj)
        exact ⟨kk, v, e1, up b _ (Nat.ne_of_gt (Nat.lt_of_lt_of_le hSlo hb)) (hkp b _ (nlo b hb) e3)⟩
      · subst h1
        have hb : h.objs.size = b := by simpa using hj
        subst hb
        refine ⟨_, _, ?_, up _ _ (Nat.ne_of_gt hSl) ht⟩
        rw [List.getElem?_zip_eq_some]
        subst hal
        exact ⟨by simpa using ex, by simpa using ey⟩
      · have hnone : (as ++ [h.objs.size])[j]? = none := List.getElem?_eq_none (by rw [List.length_append, List.length_singleton]; omega)
        rw [hnone] at hj; cases hj
    · have e : (h'.update S (Obj.mapSeq (·.push (Value.ref h.objs.size)))).get? h.objs.size = _ := up _ _ (Nat.ne_of_gt hSl) ht
      exact Nat.le_trans hIs (Nat.le_of_lt (Heap.lt_size e))
end
theorem zip_no_len : typeLookup (.type "zip") "__len__" = pure none := by rw [typeLookup_type, builtinLookup_eq_fast]; kernel_rfl
theorem zip_no_hint : typeLookup (.type "zip") "__length_hint__" = pure none := by rw [typeLookup_type, builtinLookup_eq_fast]; kernel_rfl
section
variable {P : Program} {w : World} {A : Around} {E : Value → Shared → Prop} {s : Shared} {z TI TO i1 i2 l1 l2 S : Addr} {xs ys : Array Value}
theorem zip_extend {R : Result → Shared → Prop} {lo : Addr} (hh : A.handled = none) (D : ZipApart z TI TO i1 i2 l1 l2) (nd : S ∉ [z, TI, TO, i1, i2, l1, l2]) (hSlo : S < lo) (hlo : ∀ c ∈ [z, TO, i1, i2], c < lo) (hIs : lo ≤ s.heap.objs.size) (hn : min xs.size ys.size ≤ sizeLine) (res : Value) (c₀ : Nat)
    (hst : ZipSt z TI TO i1 i2 l1 l2 S xs ys 0 s.heap) (hty : s.TypeIs (.ref z) "zip") (hself : ∀ (Q : Value → Shared → Prop) (E : Value → Shared → Prop), Q (.ref z) s → wpAny (model P w) A.in1 (pyIter (.ref z)) Q E s) (hS : s.heap.get? S = some { cls := .type "list", data := .seq #[] c₀ })
    (hR : ∀ h' tk acc c as, (∀ b o, b ∉ [S, z, TO, i1, i2] → s.heap.get? b = some o → h'.get? b = some o) → h'.get? S = some { cls := .type "list", dict := none, data := .seq acc c, slots := #[] } → as.length = min xs.size ys.size → ZG (xs.toList.zip ys.toList) lo h' as →
      acc.toList = as.map Value.ref → R (.ok (.ret res)) { s with heap := h', toks := tk }) :
    wpAny (model P w) A.in1 (Builtin.List.listExtendWith (.ref S) (.ref z) res)
      (fun fin s' => match fin with | .done f => R (.ok f) s' | .again c' => c'.quiet = true ∧ codeAny (model P w) A c' R s') (fun e s' => R (.error e) s') s := by
  have hSz : S ≠ z := fun e => nd (by simp [e])
  unfold Builtin.List.listExtendWith
  refine wpAny_bind (wpAny_typeOf (T := "zip") hty ?_)
  have h1 : Builtin.List.listSameRef (.ref S) (.ref z) = false := by simp [Builtin.List.listSameRef, hSz]
  have h2 : (Value.type "zip" == Value.type "list") = false := by decide
  have h3 : (Value.type "zip" == Value.type "tuple") = false := by decide
  simp only [h1, h2, h3, Bool.or_false, Bool.false_eq_true, if_false]
  refine wpAny_bind (hself _ _ ?_)
  refine wpAny_bind (wpAny_holding ?_)
  unfold Builtin.List.listLengthHint
  refine wpAny_bind (wpAny_specialOf hty zip_no_len ?_)
  show wpAny _ A.in1 (specialOf (Value.ref z) (Str.ofString "__length_hint__") >>= _) _ _ _
  refine wpAny_bind (wpAny_specialOf hty zip_no_hint ?_)
  refine wpAny_pure ?_
  show wpAny _ A.in1 (rule "list.extend.makes-room" >>= fun _ => Builtin.List.listTouch (.ref S) >>= fun _ =>
    again (.builtin "list.extend.loop" ⟨[.ref S, .ref z, res], []⟩)) _ _ _
  refine wpAny_bind (wpAny_rule ?_)
  refine wpAny_bind ?_
  show wpAny _ A.in1 (updateSeq S (·.push .none) >>= fun _ => updateSeq S (·.pop)) _ _ _
  refine wpAny_bind (wpAny_updateSeq hS rfl ?_)
  have hS₂ := Heap.get?_update_self (Obj.mapSeq (·.push Value.none)) hS rfl
  refine wpAny_updateSeq (hz := by seq_fits) hS₂ rfl ?_
  have hS₃ := Heap.get?_update_self (Obj.mapSeq (·.pop)) hS₂ rfl
  have oth : ∀ b o, b ≠ S → s.heap.get? b = some o → ((s.heap.update S (Obj.mapSeq (·.push Value.none))).update S (Obj.mapSeq (·.pop))).get? b = some o :=
    fun b o hb e => (Heap.get?_update_other _ _ (Ne.symm hb)).trans ((Heap.get?_update_other _ _ (Ne.symm hb)).trans e)
  have e1 : ((s.heap.update S (Obj.mapSeq (·.push Value.none))).update S (Obj.mapSeq (·.pop))).objs.size = s.heap.objs.size := by simp [Heap.size_update]
  refine wpAny_pure ⟨plainId_quiet F.plain_extend_loop _, zip_loop (s := s) (lo := lo) hh D nd hSlo hlo hn res hR (min xs.size ys.size) 0 _ s.toks _ #[] [] (by omega) (Nat.zero_le _) (hst.keep nd oth) (fun b o h1 e => oth b o (fun q => h1 (by simp [q])) e) hS₃ rfl rfl ⟨List.Pairwise.nil, (fun _ ha => nomatch ha), (fun j a hj => by simp at hj)⟩ (by rw [e1]; exact hIs)⟩
end
end Px
end
section
set_option linter.all false
set_option maxRecDepth 100000
/-! PxZ2: list(zip(a, b)) of two lists: the call, the interpreter's step. -/
namespace Px
open PySem PySem.Spec PyProof.Rows L2 PySem.W
section
variable {P : Program} {w : World} {A : Around} {E : Value → Shared → Prop} {s : Shared} {z TI TO i1 i2 l1 l2 S : Addr} {xs ys : Array Value}
theorem zip_init {R : Result → Shared → Prop} {lo : Addr} (hh : A.handled = none) (D : ZipApart z TI TO i1 i2 l1 l2) (nd : S ∉ [z, TI, TO, i1, i2, l1, l2]) (hSlo : S < lo) (hlo : ∀ c ∈ [z, TO, i1, i2], c < lo) (hIs : lo ≤ s.heap.objs.size) (hn : min xs.size ys.size ≤ sizeLine)
    (hst : ZipSt z TI TO i1 i2 l1 l2 S xs ys 0 s.heap) (hz : IsZip s.heap z TI TO .none) (hS : s.heap.get? S = some { cls := .type "list", data := .seq #[] })
    (hR : ∀ h' tk acc c as, (∀ b o, b ∉ [S, z, TO, i1, i2] → s.heap.get? b = some o → h'.get? b = some o) → h'.get? S = some { cls := .type "list", dict := none, data := .seq acc c, slots := #[] } → as.length = min xs.size ys.size → ZG (xs.toList.zip ys.toList) lo h' as →
      acc.toList = as.map Value.ref → R (.ok (.ret .none)) { s with heap := h', toks := tk }) :
    wpAny (model P w) A.in1 (Builtin.«list.__init__» ⟨[.ref S, .ref z], []⟩)
      (fun fin s' => match fin with | .done f => R (.ok f) s' | .again c' => c'.quiet = true ∧ codeAny (model P w) A c' R s') (fun e s' => R (.error e) s') s := by
  have hSz : z ≠ S := fun e => nd (by simp [e])
  show wpAny _ A.in1 (do let old ← Builtin.List.listItems (.ref S); Builtin.List.listUpdate (.ref S) (fun _ => #[]); letGo old.toList.reverse; Builtin.List.listExtendWith (.ref S) (.ref z) .none) _ _ s
  refine wpAny_bind ?_
  unfold Builtin.List.listItems
  refine wpAny_bind (wpAny_seqItems hS rfl (wpAny_pure ?_))
  show wpAny _ A.in1 (updateSeq S (fun _ => #[]) >>= fun _ => letGo (#[] : Array Value).toList.reverse >>= fun _ => Builtin.List.listExtendWith (.ref S) (.ref z) .none) _ _ s
  refine wpAny_bind (wpAny_updateSeq hS rfl ?_)
  have hS₂ := Heap.get?_update_self (Obj.mapSeq (fun _ => (#[] : Array Value))) hS rfl
  have oth : ∀ b o, b ≠ S → s.heap.get? b = some o → (s.heap.update S (Obj.mapSeq (fun _ => (#[] : Array Value)))).get? b = some o :=
    fun b o hb e => (Heap.get?_update_other _ _ (Ne.symm hb)).trans e
  refine wpAny_bind (wpAny_letGo ?_)
  have e1 : (s.heap.update S (Obj.mapSeq (fun _ => (#[] : Array Value)))).objs.size = s.heap.objs.size := by simp [Heap.size_update]
  have hz2 : IsZip (s.heap.update S (Obj.mapSeq (fun _ => (#[] : Array Value)))) z TI TO .none := oth _ _ hSz hz
  refine zip_extend (s := { s with heap := s.heap.update S (Obj.mapSeq (fun _ => (#[] : Array Value))) }) (lo := lo) hh D nd hSlo hlo (by show lo ≤ (s.heap.update S _).objs.size; rw [e1]; exact hIs) hn .none _ (hst.keep nd oth) ⟨_, hz2, rfl⟩ (fun Q E q => wpAny_pyIter_zip hz2 q) hS₂ fun h' tk acc c as hk hS' hl hG hacc => ?_
  exact hR h' tk acc c as (fun b o hb e => hk b o hb (oth b o (fun q => hb (by simp [q])) e)) hS' hl hG hacc
/-- list(z), z a new zip of two lists -/
theorem call_list_zip {Q : Value → Shared → Prop} (hh : A.handled = none) (D : ZipApart z TI TO i1 i2 l1 l2) (hz : IsZip s.heap z TI TO .none) (hTI : IsPair s.heap TI (.ref i1) (.ref i2)) (hTO : ∃ a b, IsPair s.heap TO a b)
    (h1 : s.heap.IsListIter i1 l1 0) (h2 : s.heap.IsListIter i2 l2 0) (hl1 : s.heap.IsList l1 xs) (hl2 : s.heap.IsList l2 ys) (hn : min xs.size ys.size ≤ sizeLine)
    (hQ : ∀ h' tk acc c as, (∀ b o, b ∉ [z, TO, i1, i2] → s.heap.get? b = some o → h'.get? b = some o) → h'.get? s.heap.objs.size = some { cls := .type "list", dict := none, data := .seq acc c, slots := #[] } → as.length = min xs.size ys.size → ZG (xs.toList.zip ys.toList) (s.heap.objs.size + 1) h' as →
      acc.toList = as.map Value.ref → Q (.ref s.heap.objs.size) { s with heap := h', toks := tk }) :
    wpAny (model P w) A (call (.type "list") [.ref z]) Q E s := by
  refine callType_codes (Q₁ := fun obj s₁ => obj = .ref s.heap.objs.size ∧ s₁ = { s with heap := s.heap.push { cls := .type "list", data := .seq #[] } }) F.called_list (F.typeCall_list_1 _) F.entry_list_init
    (code_list_new _ ⟨rfl, rfl⟩) fun obj s₁ h₁ => ?_
  obtain ⟨rfl, rfl⟩ := h₁
  have hS : (s.heap.push { cls := .type "list", data := .seq #[] }).get? s.heap.objs.size = some { cls := .type "list", data := .seq #[] } := Heap.get?_push_size _ rfl
  have up : ∀ b o, s.heap.get? b = some o → (s.heap.push { cls := .type "list", data := .seq #[] }).get? b = some o := fun b o e => Heap.get?_push_of_some _ e
  have ltz : z < s.heap.objs.size := Heap.lt_size hz
  have ltTI : TI < s.heap.objs.size := Heap.lt_size hTI
  have ltTO : TO < s.heap.objs.size := by obtain ⟨_, _, e⟩ := hTO; exact Heap.lt_size e
  have lt1 : i1 < s.heap.objs.size := by obtain ⟨_, e, _⟩ := id h1; exact Heap.lt_size e
  have lt2 : i2 < s.heap.objs.size := by obtain ⟨_, e, _⟩ := id h2; exact Heap.lt_size e
  have ltl1 : l1 < s.heap.objs.size := by obtain ⟨_, e, _⟩ := id hl1; exact Heap.lt_size e
  have ltl2 : l2 < s.heap.objs.size := by obtain ⟨_, e, _⟩ := id hl2; exact Heap.lt_size e
  have nd : s.heap.objs.size ∉ [z, TI, TO, i1, i2, l1, l2] := by
    simp only [List.mem_cons, List.not_mem_nil, or_false, not_or]
    exact ⟨Nat.ne_of_gt ltz, Nat.ne_of_gt ltTI, Nat.ne_of_gt ltTO, Nat.ne_of_gt lt1, Nat.ne_of_gt lt2, Nat.ne_of_gt ltl1, Nat.ne_of_gt ltl2⟩
  have hlo : ∀ c ∈ [z, TO, i1, i2], c < s.heap.objs.size + 1 := fun c hc => by
    simp only [List.mem_cons, List.not_mem_nil, or_false] at hc
    rcases hc with e | e | e | e
    · rw [e]; exact Nat.lt_succ_of_lt ltz
    · rw [e]; exact Nat.lt_succ_of_lt ltTO
    · rw [e]; exact Nat.lt_succ_of_lt lt1
    · rw [e]; exact Nat.lt_succ_of_lt lt2
  have hst : ZipSt z TI TO i1 i2 l1 l2 s.heap.objs.size xs ys 0 (s.heap.push { cls := .type "list", data := .seq #[] }) := by
    obtain ⟨a, b, hTO⟩ := hTO
    exact ⟨up _ _ hTI, h1.at (up _), h2.at (up _), hl1.at (up _), hl2.at (up _), .inl ⟨up _ _ hz, a, b, up _ _ hTO⟩⟩
  refine ⟨⟨_, hS, rfl⟩, F.args_list_init_2 _ _, zip_init (A := A.in1) (lo := s.heap.objs.size + 1) hh D nd (Nat.lt_succ_self _) hlo (by show _ ≤ (s.heap.push _).objs.size; rw [Heap.size_push]; exact Nat.le_refl _) hn hst (up _ _ hz) hS fun h' tk acc c as hk hS' hl hG hacc => ?_⟩
  refine ⟨rfl, hQ h' tk acc c as (fun b o hb e => hk b o (fun hm => ?_) (up _ _ e)) hS' hl hG hacc⟩
  rcases List.mem_cons.mp hm with q | q
  · exact absurd (Heap.lt_size e) (by rw [q]; exact Nat.lt_irrefl _)
  · exact hb q
end
/-- pairs laid one behind the other -/
def layP : List Addr → List (V × V) → Hp → Hp
  | a :: as, p :: ps, H => layP as ps (upd H a (.tup [p.1, p.2]))
  | _, _, H => H
theorem layP_ne : ∀ {as : List Addr} {ps : List (V × V)} {H : Hp} {b : Addr}, b ∉ as → layP as ps H b = H b
  | [], _, _, _, _ => by simp [layP]
  | _ :: _, [], _, _, _ => rfl
  | a :: as, p :: ps, H, b, h => by
    rw [layP, layP_ne (fun q => h (List.mem_cons_of_mem _ q)), upd_ne (fun q => h (by rw [q]; exact List.mem_cons_self))]
theorem layP_get : ∀ {as : List Addr} {ps : List (V × V)} {H : Hp} {j : Nat} {a : Addr} {p : V × V}, as.Pairwise (· < ·) → as[j]? = some a → ps[j]? = some p → layP as ps H a = some (.tup [p.1, p.2])
  | [], _, _, j, _, _, _, h, _ => by simp at h
  | _ :: _, [], _, j, _, _, _, _, h => by simp at h
  | a :: as, p :: ps, H, 0, b, q, hp, h1, h2 => by
    cases h1
    cases h2
    rw [layP, layP_ne (fun z => Nat.lt_irrefl _ ((List.pairwise_cons.mp hp).1 _ z)), upd_same]
  | a :: as, p :: ps, H, j + 1, b, q, hp, h1, h2 => by
    rw [layP]
    exact layP_get (List.pairwise_cons.mp hp).2 h1 h2
theorem inv_many {X : Cx} {pins : List (Addr × Obj)} {σ : L2.St} {s : Shared} {H H' : Hp} {h' : Heap} {t' : Nat} (I : Inv X pins σ H s) (k : ∀ b u, s.heap.get? b = some u → h'.get? b = some u) (lo : ∀ b, b < s.heap.objs.size → H' b = H b)
    (new : ∀ b o, s.heap.objs.size ≤ b → H' b = some o → ObjOk X.prog X.w H' h' b o) : Inv X pins σ H' { s with heap := h', toks := t' } := by
  have up : ∀ b o, H b = some o → H' b = some o := fun b o e => by
    rcases Nat.lt_or_ge b s.heap.objs.size with q | q
    · rw [lo b q]; exact e
    · rw [I.hok.fresh q] at e; cases e
  refine I.un ⟨fun b u q _ _ _ => k b u q, fun b u q _ _ _ => ⟨u.slots, k b u q⟩, fun b u q n _ => by rw [lo b (Heap.lt_size q)]; exact n, fun b u q _ => ⟨u, k b u q⟩, fun b xs q => up _ _ q, fun b u xs q => up _ _ q, fun b ps q => ⟨#[], by rw [up _ _ q]; simp⟩⟩ fun b u e => ?_
  rcases Nat.lt_or_ge b s.heap.objs.size with q | q
  · rw [lo b q] at e
    exact (I.hok b u e).stay (fun c v _ q => k c v q) (fun c q => up _ _ q) fun c xs q => up _ _ q
  · exact new b u q e
/-- the list of the pairs (x, y) for the lists at a and b -/
def rZips (K : PySem.W.Frag) : List V → Hp → VK → Prop := fun vs H Q => ∃ a b xs ys, vs = [.ref a, .ref b] ∧ SqL K H a xs ∧ SqL K H b ys ∧
  ∀ (L : Addr) (as : List Addr), H L = none → (∀ c ∈ as, H c = none) → L ∉ as → as.Pairwise (· < ·) → as.length = min xs.length ys.length → Q (.ref L) (upd (layP as (xs.zip ys) H) L (.lst (as.map V.ref)))
theorem zip_end {X : Cx} {pins : List (Addr × Obj)} {σ : L2.St} {s : Shared} {H : Hp} {xs ys : List V} {us vs : List Value} {h' : Heap} {tk c : Nat} {acc : Array Value} {as : List Addr} {L : Addr} {Q : VK} (I : Inv X pins σ H s) (rx : Vals xs us) (ry : Vals ys vs) (hz : min xs.length ys.length ≤ sizeLine)
    (k : ∀ b u, s.heap.get? b = some u → h'.get? b = some u) (hL : h'.get? L = some { cls := .type "list", dict := none, data := .seq acc c, slots := #[] }) (hl : as.length = min xs.length ys.length) (g : ZG (us.zip vs) (L + 1) h' as) (hacc : acc.toList = as.map Value.ref)
    (lL : s.heap.objs.size ≤ L) (q : Q (.ref L) (upd (layP as (xs.zip ys) H) L (.lst (as.map V.ref)))) : EP X pins σ Q (.ref L) { s with heap := h', toks := tk } := by
  have nL : L ∉ as := fun z => Nat.lt_irrefl _ (g.above L z)
  have lo : ∀ a ∈ as, s.heap.objs.size ≤ a := fun a ha => Nat.le_trans lL (Nat.le_of_lt (g.above a ha))
  refine ⟨.ref L, _, inv_many (t' := tk) I k (fun b hb => ?_) (fun b o hb e => ?_), rfl, q⟩
  · rw [upd_ne (fun z => by rw [z] at hb; exact Nat.lt_irrefl _ (Nat.lt_of_lt_of_le hb lL)), layP_ne (fun z => Nat.lt_irrefl _ (Nat.lt_of_lt_of_le hb (lo b z)))]
  · by_cases hbL : b = L
    · subst hbL
      rw [upd_same] at e
      cases e
      refine ⟨by rw [List.length_map, hl]; exact hz, as.map Value.ref, c, ?_, ?_⟩
      · clear hl g hacc nL lo q hb
        induction as with
        | nil => exact .nil
        | cons a as ih => exact .cons rfl ih
      · rw [hL, ← hacc, Array.toArray_toList]
    · rw [upd_ne hbL] at e
      by_cases hm : b ∈ as
      · obtain ⟨j, hj⟩ := List.mem_iff_getElem?.mp hm
        obtain ⟨u, v, e1, e2⟩ := g.pairs j b hj
        rw [List.getElem?_zip_eq_some] at e1
        have lj : j < min xs.length ys.length := by rw [← hl]; exact (List.getElem?_eq_some_iff.mp hj).1
        have hx : xs[j]? = some xs[j] := List.getElem?_eq_getElem (by omega)
        have hy : ys[j]? = some ys[j] := List.getElem?_eq_getElem (by omega)
        generalize xs[j] = x at hx
        generalize ys[j] = y at hy
        obtain ⟨u', hu, r1⟩ := rx.get hx
        obtain ⟨v', hv, r2⟩ := ry.get hy
        obtain rfl : u' = u := Option.some.inj (hu.symm.trans e1.1)
        obtain rfl : v' = v := Option.some.inj (hv.symm.trans e1.2)
        have e3 : (xs.zip ys)[j]? = some (x, y) := List.getElem?_zip_eq_some.mpr ⟨hx, hy⟩
        rw [layP_get g.rise hj e3] at e
        cases e
        exact ⟨by show 2 ≤ sizeLine; decide, [u', v'], .cons r1 (.cons r2 .nil), ⟨_, e2, rfl, _, rfl⟩⟩
      · rw [layP_ne hm, I.hok.fresh hb] at e
        cases e
theorem pe_lzip {X : Cx} {e e2 : Expr} {ta : TA} {p p2 pos qp : Pos} (hg : Gl X "list") (hm : X.mg "list" = none) (hg2 : Gl X "zip") (hm2 : X.mg "zip" = none) (hc : X.calm = true) (ha : PA X [e, e2] ta)
    (hs : starEach [e, e2] X.env = (false, eval e X.env) :: starEach [e2] X.env) (hpl : (backTo qp (starEach [e2] X.env)).any (·.1) = false) :
    PE X (.Call (.Name "list" p) [.Call (.Name "zip" p2) [e, e2] [] qp] [] pos) (fun σ H Q => ta σ H fun vs H1 => rZips X.K vs H1 Q) := by
  refine ⟨fun pins s σ H Q I h => ?_⟩
  refine Call_ (ld_blt I hg hm (show bootBuiltins "list" = some (.type "list") by kernel_rfl) ?_)
  refine PyProof.Rows.callWith_type1 (PyProof.Rows.args_cons ?_ rfl) rfl rfl
  refine Call_ (ld_blt I hg2 hm2 PyProof.Rows.boot_zip (PyProof.Rows.callWith_type1 (thn (ha.run qp pins s σ H _ I h) fun us s1 ⟨vs, H1, I1, r1, q1⟩ => ?_) hs hpl))
  obtain ⟨a, b, xs, ys, ex, hqx, hqy, q⟩ := q1
  subst ex
  cases r1 with
  | cons r rr =>
    cases rr with
    | cons r' rr =>
      cases rr
      cases r
      cases r'
      obtain ⟨its, rv, p1, z1⟩ := I1.list hqx
      obtain ⟨its2, rv2, p2, z2⟩ := I1.list hqy
      refine call_zip_2 p1.isList p2.isList fun h' hz hTI hTO h1 h2 hsz hk => ?_
      refine PyProof.Rows.args_nil ?_
      have D := PySem.W.ktu_apart s1.heap.objs.size a b p1.lt p2.lt
      have l1 := rv.length
      have l2 := rv2.length
      refine call_list_zip (s := { s1 with heap := h' }) (I1.ok.hd hc) D hz hTI ⟨_, _, hTO⟩ h1 h2 (p1.isList.at fun o e => hk _ o e) (p2.isList.at fun o e => hk _ o e) ?_ fun h'' tk acc c as hk2 hL hl hG hacc => ?_
      · simp only [List.size_toArray]; omega
      · have lt5 : ∀ b o, s1.heap.get? b = some o → b ∉ [s1.heap.objs.size + 4, s1.heap.objs.size + 3, s1.heap.objs.size, s1.heap.objs.size + 1] := fun b o e hb => by
          have := Heap.lt_size e
          simp only [List.mem_cons, List.not_mem_nil, or_false] at hb
          rcases hb with z | z | z | z <;> rw [z] at this <;> exact absurd this (by first | exact Nat.lt_irrefl _ | exact Nat.not_lt.mpr (Nat.le_add_right _ _))
        have lL : s1.heap.objs.size ≤ h'.objs.size := by rw [hsz]; exact Nat.le_add_right _ _
        have nL : H1 h'.objs.size = none := I1.hok.fresh lL
        show EP X pins σ Q (.ref h'.objs.size) { s1 with heap := h'', toks := tk }
        refine zip_end (s := s1) I1 rv rv2 (by omega) (fun b u e => hk2 b u (lt5 b u e) (hk b u e)) hL (by rw [hl]; simp only [List.size_toArray]; omega) hG hacc lL (q _ as nL (fun c hc => I1.hok.fresh (Nat.le_trans lL (Nat.le_of_lt (hG.above c hc)))) (fun z => Nat.lt_irrefl _ (hG.above _ z)) hG.rise (by rw [hl]; simp only [List.size_toArray]; omega))
end Px
end
section
set_option linter.all false
set_option maxRecDepth 100000
/-! PxZ3: list(zip(a, b)) in the interpreter. -/
namespace Px
open PySem PySem.Spec PyProof.Rows L2
section
variable {B : Base} {k : Nat} {N : List Str} {sc : Scp} {e : Expr} {pos : Pos}
theorem layP_later {φ : List Addr} {S : Sto} : ∀ {as : List Addr} {ps : List (V × V)} {H : Hp}, RelS B.K B.mg B.hid φ S H → as.Pairwise (· < ·) → (∀ a ∈ as, H a = none) → Ext φ H φ (layP as ps H) ∧ RelS B.K B.mg B.hid φ S (layP as ps H)
  | [], _, _, hS, _, _ => by simp only [layP]; exact ⟨Ext.refl, hS⟩
  | _ :: _, [], _, hS, _, _ => ⟨Ext.refl, hS⟩
  | a :: as, p :: ps, H, hS, hp, hn => by
    rw [layP]
    have na : H a = none := hn a List.mem_cons_self
    obtain ⟨e1, h1⟩ := layP_later (as := as) (ps := ps) (hS.upd (o := .tup [p.1, p.2]) na) (List.pairwise_cons.mp hp).2 fun b hb => by
      rw [upd_ne (fun z => Nat.lt_irrefl _ (by have := (List.pairwise_cons.mp hp).1 b hb; rw [z] at this; exact this))]
      exact hn b (List.mem_cons_of_mem _ hb)
    exact ⟨(Ext.upd na).trans e1, h1⟩
theorem layP_reps {φ : List Addr} {S : Sto} : ∀ {as : List Addr} {vs ws : List V} {xs ys : List T} {H : Hp}, RelS B.K B.mg B.hid φ S H → B.reps φ H vs xs → B.reps φ H ws ys → as.Pairwise (· < ·) → (∀ a ∈ as, H a = none) → as.length = min vs.length ws.length →
    B.reps φ (layP as (vs.zip ws) H) (as.map V.ref) (pairZ xs ys)
  | [], vs, ws, xs, ys, H, hS, rv, rw2, _, _, hl => by
    have l1 := Reps.length rv
    have l2 := Reps.length rw2
    have : pairZ xs ys = [] := by
      apply List.eq_nil_of_length_eq_zero
      rw [pairZ_len, ← l1, ← l2, ← hl]
      rfl
    rw [this]
    exact .nil
  | a :: as, [], ws, xs, ys, H, hS, rv, rw2, _, _, hl => by simp at hl
  | a :: as, v :: vs, [], xs, ys, H, hS, rv, rw2, _, _, hl => by simp at hl
  | a :: as, v :: vs, w :: ws, xs, ys, H, hS, rv, rw2, hp, hn, hl => by
    cases rv with
    | @cons _ _ x xs r1 rr1 =>
      cases rw2 with
      | @cons _ _ y ys r2 rr2 =>
        have na : H a = none := hn a List.mem_cons_self
        have e0 : Ext φ H φ (upd H a (.tup [v, w])) := Ext.upd na
        have hS1 := hS.upd (o := .tup [v, w]) na
        have hn1 : ∀ b ∈ as, upd H a (.tup [v, w]) b = none := fun b hb => by
          rw [upd_ne (fun z => Nat.lt_irrefl _ (by have := (List.pairwise_cons.mp hp).1 b hb; rw [z] at this; exact this))]
          exact hn b (List.mem_cons_of_mem _ hb)
        have e1 := (layP_later (as := as) (ps := vs.zip ws) hS1 (List.pairwise_cons.mp hp).2 hn1).1
        have ih := layP_reps (as := as) hS1 (Reps.ext e0 rr1) (Reps.ext e0 rr2) (List.pairwise_cons.mp hp).2 hn1 (by simp at hl; omega)
        have top : B.rep φ (upd H a (.tup [v, w])) (.ref a) (.tup [x, y]) := .tup (.inl ⟨.inl upd_same, hS.nin na, hS.ninH na⟩) (.cons (r1.ext e0) (.cons (r2.ext e0) .nil))
        exact .cons (top.ext e1) ih
theorem lzip_vl {x y t : T} (h : lzipT x y = some t) : ∃ xs ys, x = .vl xs ∧ y = .vl ys ∧ xs.length ≤ lim ∧ t = .vl (pairZ xs ys) := by
  cases x with
  | vl xs =>
    cases y with
    | vl ys =>
      simp only [lzipT, gd] at h
      split at h
      · rename_i q
        cases h
        exact ⟨xs, ys, rfl, rfl, by simpa using q, rfl⟩
      · cases h
    | _ => cases h
  | _ => cases h
theorem ie_lzip {a b : Expr} {ma mb : Env → Sto → R T} {p q qp : Pos} (hg : sc.names.lookup ("list" : Str) = some .globalImplicit) (hm : B.mg "list" = none) (hg2 : sc.names.lookup ("zip" : Str) = some .globalImplicit) (hm2 : B.mg "zip" = none) (hs : isStar a = false) (hs2 : isStar b = false) (ha : IE B k N sc a ma) (hb : IE B k N sc b mb) :
    IE B k N sc (.Call (.Name "list" p) [.Call (.Name "zip" q) [a, b] [] qp] [] pos) (fun ρ S => (ma ρ S).bind fun x S => (mb ρ S).bind fun y S => R.opt (lzipT (vw S x) (vw S y)) S) := fun X s => by
  refine PE.imp (pe_lzip (gl_of s hg) (by rw [s.hmg]; exact hm) (gl_of s hg2) (by rw [s.hmg]; exact hm2) s.calm (pa_cons (ha X s) (pa_cons (hb X s) pa_nil (star_head hs2)) (star_head hs)) (star_head hs) (star_none (by simp [hs2]))) fun σ H Q ⟨φ, ρ, S, hS, hE, hp⟩ => ?_
  cases hx : ma ρ S with
  | bad => simp only [hx, R.bind] at hp; exact hp.elim
  | exc => simp only [hx, R.bind] at hp; exact hp.elim
  | ok x S1 =>
    simp only [hx, R.bind_ok] at hp
    refine ⟨φ, ρ, S, hS, hE, ?_⟩
    rw [hx]
    intro φ1 H1 v e1 hS1 rv
    refine ⟨φ1, ρ, S1, hS1, hE.ext e1, ?_⟩
    cases hy : mb ρ S1 with
    | bad => simp only [hy, R.bind] at hp; exact hp.elim
    | exc => simp only [hy, R.bind] at hp; exact hp.elim
    | ok y S2 =>
      simp only [hy, R.bind_ok] at hp
      obtain ⟨t, ht, hp⟩ := hp.opt
      obtain ⟨xs, ys, ex, ey, hlim, rfl⟩ := lzip_vl ht
      intro φ2 H2 w e2 hS2 rw2
      have rv2 := rv.ext e2
      rw [s.hK]
      obtain ⟨a1, vs1, rfl, h1, q1⟩ := seen_list hS2 rv2 ex
      obtain ⟨a2, vs2, rfl, h2, q2⟩ := seen_list hS2 rw2 ey
      refine ⟨a1, a2, vs1, vs2, rfl, .of h1, .of h2, fun L as nL nas nLas pw hl => ?_⟩
      obtain ⟨x1, x2⟩ := layP_later (as := as) (ps := vs1.zip vs2) hS2 pw nas
      have nL1 : layP as (vs1.zip vs2) H2 L = none := by rw [layP_ne nLas]; exact nL
      have e3 : Ext φ2 (layP as (vs1.zip vs2) H2) φ2 (upd (layP as (vs1.zip vs2) H2) L (.lst (as.map V.ref))) := Ext.upd nL1
      exact hp φ2 _ _ (e1.trans (e2.trans (x1.trans e3))) (x2.upd nL1) (.vl upd_same ⟨x2.nin nL1, x2.ninH nL1⟩ (Reps.ext e3 (layP_reps hS2 q1 q2 pw nas hl)))
end
end Px
end
section
set_option linter.all false
set_option maxRecDepth 100000
/-! Px11b: a, b, c = x, y, z. -/
namespace Px
open PySem PySem.Spec PyProof.Rows L2
section
variable {X : Cx} {pos : Pos}
def tPar3 (i j l : Nat) (ta : TA) : TS := fun D σ H => ta σ H fun vs H1 => ∃ v w r, vs = [v, w, r] ∧ D.nx (((σ.set i (some v)).set j (some w)).set l (some r)) H1
theorem ps_par3 {i j l : Nat} {x y z : Str} {a b c : Expr} {ta : TA} {px py pz pt : Pos} {kt k2 pt2} (hc : X.calm = true) (hN : X.N.Nodup) (hi : X.N[i]? = some x) (hj : X.N[j]? = some y) (hl : X.N[l]? = some z) (hij : i ≠ j) (hil : i ≠ l) (hjl : j ≠ l)
    (hx : X.env.scope.names.lookup x = some .local) (hy : X.env.scope.names.lookup y = some .local) (hz : X.env.scope.names.lookup z = some .local) (ha : PA X [a, b, c] ta)
    (hw : swappedStores [.Tuple [.Name x px, .Name y py, .Name z pz] kt pt] (.Tuple [a, b, c] k2 pt2) X.env = pure (some [x, y, z]))
    (hs : swapsWithSole [.Tuple [.Name x px, .Name y py, .Name z pz] kt pt] (.Tuple [a, b, c] k2 pt2) pos.line X.env = pure false := by rfl) :
    PS X (.Assign [.Tuple [.Name x px, .Name y py, .Name z pz] kt pt] (.Tuple [a, b, c] k2 pt2) pos) (tPar3 i j l ta) := by
  refine ⟨fun pins s σ H D I h => ?_⟩
  rw [exec_Assign_arm]
  refine wpAny_bind (wpAny_standAt ?_)
  rw [hs]
  refine wpAny_bind (wpAny_pure ?_)
  rw [if_neg (by decide)]
  refine wpAny_bind (Tuple_ (thn (ha.run _ pins s σ H _ I h) fun us s1 ⟨vs, H1, I1, r1, q1⟩ => ?_))
  obtain ⟨v, w, r, e1, q1⟩ := q1
  subst e1
  obtain ⟨u1, u2, u3, rfl, rv, rw', rr⟩ : ∃ u1 u2 u3, us = [u1, u2, u3] ∧ RelV v u1 ∧ RelV w u2 ∧ RelV r u3 := by
    cases r1 with
    | cons p q =>
      cases q with
      | cons p' q' =>
        cases q' with
        | cons p2 q2 =>
          cases q2
          exact ⟨_, _, _, rfl, p, p', p2⟩
  refine wpAny_newObj_type ?_ (by show 3 ≤ sizeLine; decide)
  have I2 : L2.Inv X pins σ H1 { s1 with heap := s1.heap.push { cls := .type "tuple", data := .seq [u1, u2, u3].toArray } } := I1.kept (t' := s1.toks) fun b o e => Heap.get?_push_of_some _ e
  rw [hw]
  refine wpAny_bind (wpAny_pure ?_)
  show wpAny (model X.prog X.w) X.A (do rule "assign.swapped-stores"; let items ← unpackItems (.ref s1.heap.objs.size) 3 none; assignInOrder [fun v => bindName X.env z v, fun v => bindName X.env y v, fun v => bindName X.env x v] items.reverse; pure Flow.next) _ _ _
  refine wpAny_bind (wpAny_rule (wpAny_bind (unpackItems_tuple (items := #[u1, u2, u3]) (I.ok.hd hc) (IsTup.new s1.heap _) fun h' hx' => ?_)))
  have I3 := I2.kept (h' := h') (t' := s1.toks) fun b o e => hx' b o (Nat.ne_of_lt (Heap.lt_size e)) e
  show wpAny _ _ (assignInOrder [fun v => bindName X.env z v, fun v => bindName X.env y v, fun v => bindName X.env x v] [u3, u2, u1] >>= fun _ => pure Flow.next) _ _ _
  refine wpAny_bind (assignInOrder_cons (wpAny_bindName (store_ok I3 hN hl (.inl hz) rr (fun s2 I4 => ?_) (.inr hz))))
  refine assignInOrder_cons (wpAny_bindName (store_ok I4 hN hj (.inl hy) rw' (fun s3 I5 => ?_) (.inr hy)))
  refine assignInOrder_cons (wpAny_bindName (store_ok I5 hN hi (.inl hx) rv (fun s4 I6 => assignInOrder_nil (wpAny_pure ?_)) (.inr hx)))
  rw [List.set_comm _ _ (Ne.symm hij), List.set_comm _ _ (Ne.symm hil), List.set_comm _ _ (Ne.symm hjl)] at I6
  exact ⟨_, H1, I6, q1⟩
end
section
variable {B : Base} {k : Nat} {N : List Str} {sc : Scp} {pos : Pos}
theorem swap3 {env : PySem.Env} {x y z : Str} {px py pz pt pt2 : Pos} {a b c : Expr} {kt k2 : Nat} (hk : env.scope.kind = .function) (hx : env.scope.names.lookup x = some .local) (hy : env.scope.names.lookup y = some .local) (hz : env.scope.names.lookup z = some .local) (hl : (py.line == px.line) = true) (hl2 : (pz.line == px.line) = true) (hne : x ≠ y) (hne2 : x ≠ z) (hne3 : y ≠ z)
    (hs1 : isStar a = false) (hs2 : isStar b = false) (hs3 : isStar c = false) (hf : [a, b, c].all (foldedForSure 8) = false) (hc : [a, b, c].all (constantsAlone 8) = false) :
    swappedStores [.Tuple [.Name x px, .Name y py, .Name z pz] kt pt] (.Tuple [a, b, c] k2 pt2) env = pure (some [x, y, z]) := by
  have kx : env.kindOf x = some .local := hx
  have ky : env.kindOf y = some .local := hy
  have kz : env.kindOf z = some .local := hz
  have hb : env.blockKind = .function := by unfold Env.blockKind; rw [hk]; rfl
  have hyx : (y == x) = false := by rw [beq_eq_false_iff_ne]; exact fun q => hne q.symm
  have hzx : (z == x) = false := by rw [beq_eq_false_iff_ne]; exact fun q => hne2 q.symm
  have hzy : (z == y) = false := by rw [beq_eq_false_iff_ne]; exact fun q => hne3 q.symm
  have hd : ([x, y, z] : List Str).eraseDups.length = 3 := by
    rw [List.eraseDups_cons]
    simp [hyx, hzx, hzy, List.eraseDups_cons]
  rw [List.all_cons, List.all_cons, List.all_cons, List.all_nil, Bool.and_true] at hf hc
  unfold swappedStores
  simp only [hb, kx, ky, kz, hl, hl2, Expr.pos, List.length_cons, List.length_nil, List.head?_cons, Option.map_some, Option.getD_some, List.filterMap_cons, List.filterMap_nil, beq_self_eq_true, List.any_cons, List.any_nil, List.all_cons, List.all_nil, Bool.and_true, Bool.or_false, if_true, hf, hc]
  refine (if_neg (by decide)).trans ((if_neg ?_).trans ((if_neg ?_).trans rfl))
  · intro q
    rw [Bool.or_eq_true, Bool.or_eq_true] at q
    rcases q with q | q | q
    · cases a <;> first | (cases q; done) | (cases hs1; done)
    · cases b <;> first | (cases q; done) | (cases hs2; done)
    · cases c <;> first | (cases q; done) | (cases hs3; done)
  · show ¬ ((3 != 3 || ([x, y, z] : List Str).eraseDups.length != 3) = true)
    rw [hd]
    decide
theorem is_par3 {i j l : Nat} {x y z : Str} {px py pz pt pt2 : Pos} {a b c : Expr} {kt k2 : Nat} {ma mb mc : Env → Sto → R T} (hkind : sc.kind = .function) (hi : N[i]? = some x) (hj : N[j]? = some y) (hl : N[l]? = some z) (hij : i ≠ j) (hil : i ≠ l) (hjl : j ≠ l)
    (hx : sc.names.lookup x = some .local) (hy : sc.names.lookup y = some .local) (hz : sc.names.lookup z = some .local) (hl1 : (py.line == px.line) = true) (hl2 : (pz.line == px.line) = true) (hne : x ≠ y) (hne2 : x ≠ z) (hne3 : y ≠ z)
    (hs1 : isStar a = false) (hs2 : isStar b = false) (hs3 : isStar c = false) (hf : [a, b, c].all (foldedForSure 8) = false) (hc : [a, b, c].all (constantsAlone 8) = false) (ha : IE B k N sc a ma) (hb : IE B k N sc b mb) (hcc : IE B k N sc c mc) :
    IS B k N sc (.Assign [.Tuple [.Name x px, .Name y py, .Name z pz] kt pt] (.Tuple [a, b, c] k2 pt2) pos) (fun ρ S => (ma ρ S).bind fun u S => (mb ρ S).bind fun v S => (mc ρ S).bind fun r S => .ok (.nx, ((ρ.set i (some u)).set j (some v)).set l (some r)) S) := fun X s => by
  refine PS.imp (ps_par3 s.calm (by rw [s.hN]; exact s.nd) (by rw [s.hN]; exact hi) (by rw [s.hN]; exact hj) (by rw [s.hN]; exact hl) hij hil hjl (by rw [s.hsc]; exact hx) (by rw [s.hsc]; exact hy) (by rw [s.hsc]; exact hz) (pa_cons (ha X s) (pa_cons (hb X s) (pa_cons (hcc X s) pa_nil (star_head hs3)) (star_head hs2)) (star_head hs1))
    (swap3 (by rw [s.hsc]; exact hkind) (by rw [s.hsc]; exact hx) (by rw [s.hsc]; exact hy) (by rw [s.hsc]; exact hz) hl1 hl2 hne hne2 hne3 hs1 hs2 hs3 hf hc)) fun D σ H ⟨φ, ρ, S, hS, hE, hp⟩ => ?_
  refine ⟨φ, ρ, S, hS, hE, hp.bind fun u S1 φ1 H1 v _ e1 hS1 rv hp1 => ?_⟩
  refine ⟨φ1, ρ, S1, hS1, hE.ext e1, hp1.bind fun u2 S2 φ2 H2 v2 _ e2 hS2 rv2 hp2 => ?_⟩
  refine ⟨φ2, ρ, S2, hS2, hE.ext (e1.trans e2), hp2.bind fun u3 S3 φ3 H3 v3 _ e3 hS3 rv3 hp3 => ?_⟩
  exact ⟨v, v2, v3, rfl, hp3 φ3 H3 _ Ext.refl hS3 ((((hE.ext (e1.trans (e2.trans e3))).set i (rv.ext (e2.trans e3))).set j (rv2.ext e3)).set l rv3)⟩
end
end Px
end
section
set_option linter.all false
set_option maxRecDepth 100000
/-! Px8d: xs.index(y) of data, of lists and tuples. -/
namespace Px
open PySem PySem.Spec PyProof.Rows L2
def rPlace (sq : Hp → Addr → List V → Prop) (K : PySem.W.Frag) : V → List V → Hp → VK → Prop := fun x ys H Q => ∃ (p : Addr) (y : V) (xs : List V) (d : PyData) (ds : List PyData) (j : Nat) (z : PyData), x = .ref p ∧ ys = [y] ∧ sq H p xs ∧ Dp K H y d ∧ DpAll K H xs ds ∧
  d.canLay0 = true ∧ d.depth ≤ 60 ∧ PyData.canLayAll0 ds = true ∧ ds[j]? = some z ∧ PyData.eqv z d = true ∧ (∀ (m : Nat) (z' : PyData), m < j → ds[m]? = some z' → PyData.eqv z' d = false) ∧ Q (.int (j : Nat)) H
theorem place_room {A : Around} {ds : List PyData} {d : PyData} (hd : d.depth ≤ 60) (hu : A.units + 64 < cLine) : A.units + 1 + min (PyData.depthAll ds) d.depth < cLine := by
  have : min (PyData.depthAll ds) d.depth ≤ d.depth := Nat.min_le_right _ _
  omega
/-- what is read of the items, place by place -/
theorem place_at {s : Shared} {its : List Value} {ds : List PyData} {as : List Addr} (ra : ReadsAll s.heap its ds as) (hc : PyData.canLayAll0 ds = true) : ∀ (m : Nat) (hm : m < its.toArray.size), ds[m]? = some (SeqAt.readOf s.heap its.toArray[m]) := fun m hm => by
  have e := SeqAt.readsAll_map ds its as hc ra
  have hm' : m < its.length := by simpa using hm
  rw [← e, List.getElem?_map, List.getElem?_eq_getElem hm']
  simp
section
variable {X : Cx}
theorem mt_place_tup (hu : X.A.units + 64 < cLine) : MtR X "tuple.index" (rPlace (SqT X.K) X.K) := fun pins s σ H x ys v us Q I rx rys h => by
  obtain ⟨p, y, xs, d, ds, j, z, rfl, rfl, hs, hd, hds, c1, c3, c2, hz, hzj, hno, q⟩ := h
  cases rx
  obtain ⟨u, rfl, ru⟩ := rys.one
  obtain ⟨bs, rd⟩ := Dp.reads I d y u hd ru
  obtain ⟨its, rv, ⟨⟨cls, dd, data, sl⟩, ho, hc, n, hdat⟩, hlen⟩ := I.tuple hs
  simp only at hc hdat
  subst hc hdat
  obtain ⟨as, ra⟩ := Dp.readsAll I ds xs its hds rv
  have hn : its.length = ds.length := SeqAt.ReadsAll.length ds its as ra
  have at_ := place_at ra c2
  have hj : j < its.toArray.size := by
    have := (List.getElem?_eq_some_iff.mp hz).1
    simp; omega
  refine call_meets PySem.F.slot_tuple_index ⟨_, ho, rfl⟩ PySem.F.entry_tuple_index (PySem.F.args_tuple_index_2 _ _)
    (TI.tuple_indexAt p its.toArray n dd sl u (fun w => PyData.eqv (SeqAt.readOf s.heap w) d) j hj ?_ ?_) ⟨ho, SeqAt.items_eqAt (vs := its.toArray) (show ReadsAll s.heap its.toArray.toList ds as from ra) rd c2 c1 (place_room c3 hu), ⟨.int (j : Nat), H, I.tok _, ⟨_, rfl⟩, q⟩⟩
  · have := at_ j hj
    rw [hz] at this
    cases this
    exact hzj
  · exact fun m hm hmj => hno m _ hmj (at_ m hm)
theorem mt_place_lst (hu : X.A.units + 64 < cLine) : MtR X "list.index" (rPlace (SqL X.K) X.K) := fun pins s σ H x ys v us Q I rx rys h => by
  obtain ⟨p, y, xs, d, ds, j, z, rfl, rfl, hs, hd, hds, c1, c3, c2, hz, hzj, hno, q⟩ := h
  cases rx
  obtain ⟨u, rfl, ru⟩ := rys.one
  obtain ⟨bs, rd⟩ := Dp.reads I d y u hd ru
  obtain ⟨its, rv, ⟨⟨cls, dd, data, sl⟩, n, ho, hc, hdn, hdat⟩, hlen⟩ := I.list hs
  simp only at hc hdat
  subst hc hdat
  obtain ⟨as, ra⟩ := Dp.readsAll I ds xs its hds rv
  have hn : its.length = ds.length := SeqAt.ReadsAll.length ds its as ra
  have at_ := place_at ra c2
  have hvl := rv.length
  have hsl := sizeLine_eq
  have hj : j < its.toArray.size := by
    have := (List.getElem?_eq_some_iff.mp hz).1
    simp; omega
  refine call_meets PySem.F.slot_list_index ⟨_, ho, rfl⟩ PySem.F.entry_list_index (PySem.F.args_list_index_2 _ _)
    (SeqAt.list_indexAt p its.toArray n dd sl u (fun w => PyData.eqv (SeqAt.readOf s.heap w) d) j hj (by simp at hj; omega) ?_ ?_) ⟨ho, SeqAt.items_eqAt (vs := its.toArray) (show ReadsAll s.heap its.toArray.toList ds as from ra) rd c2 c1 (place_room c3 hu), ⟨.int (j : Nat), H, I.tok _, ⟨_, rfl⟩, q⟩⟩
  · have := at_ j hj
    rw [hz] at this
    cases this
    exact hzj
  · exact fun m hm hmj => hno m _ hmj (at_ m hm)
end
theorem datL_get : ∀ {xs : List T} {j : Nat} {x : T}, xs[j]? = some x → (T.datL xs)[j]? = some x.dat
  | [], _, _, h => by simp at h
  | y :: xs, 0, x, h => by
    simp only [List.getElem?_cons_zero, Option.some.injEq] at h
    subst h
    rfl
  | y :: xs, j + 1, x, h => by
    have := datL_get (xs := xs) (j := j) (x := x) (by simpa using h)
    show (y.dat :: T.datL xs)[j + 1]? = _
    simpa using this
theorem datL_of : ∀ {xs : List T} {j : Nat} {d : PyData}, (T.datL xs)[j]? = some d → ∃ x, xs[j]? = some x ∧ d = x.dat
  | [], _, _, h => by simp [T.datL] at h
  | y :: xs, 0, d, h => by
    have h : some y.dat = some d := h
    cases h
    exact ⟨y, rfl, rfl⟩
  | y :: xs, j + 1, d, h => by
    have h : (T.datL xs)[j]? = some d := by simpa [T.datL] using h
    obtain ⟨x, h1, h2⟩ := datL_of h
    exact ⟨x, by simpa using h1, h2⟩
theorem ixT_some {xs : List T} {t u : T} (h : ixT xs t = some u) : t.flat = true ∧ T.flatL xs = true ∧ t.dat.depth ≤ 60 ∧ ∃ (j : Nat) (z : PyData), u = .int (j : Nat) ∧ (T.datL xs)[j]? = some z ∧ PyData.eqv z t.dat = true ∧
    ∀ (m : Nat) (z' : PyData), m < j → (T.datL xs)[m]? = some z' → PyData.eqv z' t.dat = false := by
  unfold ixT at h
  cases hg : gd (t.flat && T.flatL xs && decide (t.dat.depth ≤ 60)) () with
  | none => rw [hg] at h; cases h
  | some a =>
    rw [hg] at h
    obtain ⟨h1, _⟩ := gd_some hg
    simp only [Bool.and_eq_true, decide_eq_true_eq] at h1
    refine ⟨h1.1.1, h1.1.2, h1.2, ?_⟩
    simp only [Option.bind_some] at h
    cases hf : xs.findIdx? (fun y => y.dat.eqv t.dat) with
    | none => rw [hf] at h; cases h
    | some j =>
      rw [hf] at h
      cases h
      rw [List.findIdx?_eq_some_iff_getElem] at hf
      obtain ⟨hj, ha, hb⟩ := hf
      refine ⟨j, _, rfl, datL_get (List.getElem?_eq_getElem hj), ha, fun m z' hm hz' => ?_⟩
      obtain ⟨x, hx, rfl⟩ := datL_of hz'
      have hm2 : m < xs.length := by omega
      have := hb m hm
      rw [List.getElem?_eq_getElem hm2] at hx
      cases hx
      simpa using this
section
variable {B : Base} {k : Nat} {N : List Str} {sc : Scp} {e : Expr} {es : List Expr} {pos : Pos}
theorem mthT_index {x : T} {ts : List T} : mthT "index" x ts = (match x, ts with
    | .vl xs, [t] => ixT xs t
    | _, _ => none) := by
  rfl
theorem mths_index {l : Nat} {ys xs : List T} {S : Sto} : mthS "index" l ys xs S = .bad := by rfl
theorem place_read {φ : List Addr} {S : Sto} {H : Hp} {xs : List T} {t : T} {a : Addr} {vs ws : List V} {Q : VK} {sq : Hp → Addr → List V → Prop} (h1 : sq H a vs) (r : B.reps φ H vs xs) (rw : B.reps φ H ws [t]) (hS : RelS B.K B.mg B.hid φ S H)
    (hp : Post B B.rep φ H (R.opt (ixT xs t) S) Q) : rPlace sq B.K (.ref a) ws H Q := by
  obtain ⟨u, hu, hq⟩ := hp.opt
  obtain ⟨f1, f2, f3, j, z, rfl, g1, g2, g3⟩ := ixT_some hu
  cases rw with
  | cons rt rr =>
    cases rr
    exact ⟨a, _, vs, t.dat, T.datL xs, j, z, rfl, rfl, h1, dp_of rt f1, dpAll_of r f2, canLay_of f1, f3, canLayL_of f2, g1, g2, g3, hq.ok hS (.int _)⟩
theorem ie_index {o : Expr} {apos : Pos} {mo : Env → Sto → R T} {ms : Env → Sto → R (List T)} (ho : IE B k N sc o mo) (ha : IA B k N sc (e :: es) ms) (hb : ∀ f as ks p, o ≠ .Call f as ks p) (hline : (apos.endLine == pos.line) = true) (hs : (e :: es).any isStar = false) (hl : (e :: es).length < 30) :
    IE B k N sc (.Call (.Attribute o "index" apos) (e :: es) [] pos) (fun ρ S => (mo ρ S).bind fun x S => (match x with
      | .loc l => (match S[l]? with
        | some (.lst _) => (ms ρ S).bind fun xs S => (match S[l]? with
          | some (.lst ys) => mthS "index" l ys xs S
          | _ => .bad)
        | _ => .bad)
      | x => (ms ρ S).bind fun xs S => R.opt (mthT "index" x xs) S)) := fun X s => by
  have hs' := hs
  rw [List.any_cons, Bool.or_eq_false_iff] at hs'
  refine PE.imp (pe_bm PySem.F.plainAttrs_list PySem.F.slot_list_index PySem.F.type_list_index (mt_place_lst s.room.units) (ho X s) (ha X s) (base_plain hb) (few_ok hs hl) hline (star_head hs'.1) (star_none hs'.2)) fun σ H Q ⟨φ, ρ, S, hS, hE, hp⟩ => ?_
  refine ⟨φ, ρ, S, hS, hE, hp.bind fun t S1 φ1 H1 v _ e1 hS1 rv hp1 => ?_⟩
  cases t with
  | vl xs =>
    cases rv with
    | @vl a vs _ h n r =>
      simp only at hp1
      refine ⟨.inl ⟨rfl, vs, by rw [s.hK]; exact .of h⟩, φ1, ρ, S1, hS1, hE.ext e1, hp1.bind fun ts S2 φ2 H2 ws _ e2 hS2 rv2 hp2 => ?_⟩
      match ts, hp2 with
      | [], hp2 => exact hp2.elim
      | _ :: _ :: _, hp2 => exact hp2.elim
      | [t], hp2 =>
        rw [s.hK]
        exact place_read (.of (e2.keep _ _ h n.1)) (r.ext e2) rv2 hS2 hp2
  | loc l =>
    exfalso
    simp only at hp1
    revert hp1
    cases S1[l]? with
    | none => exact fun h => h
    | some ob =>
      cases ob with
      | lst ys =>
        simp only
        cases ms ρ S1 with
        | ok xs S2 =>
          simp only [R.bind_ok]
          cases S2[l]? with
          | none => exact fun h => h
          | some ob => cases ob <;> exact fun h => h
        | bad => exact fun h => h
        | exc => exact fun h => h
      | _ => exact fun h => h
  | _ =>
    exfalso
    simp only at hp1
    revert hp1
    cases ms ρ S1 <;> exact fun h => h
end
end Px
end
section
set_option linter.all false
set_option maxRecDepth 100000
/-! Px12b: f(..).index(x) where f ends with a new tuple. -/
namespace Px
open PySem PySem.Spec PyProof.Rows L2
/-- a tuple that has no dict of its own -/
def PlainAt (H : Hp) (v : V) : Prop := ∃ a o vs, v = .ref a ∧ H a = some (.frz o (.tup vs)) ∧ o.dict = none
def repP (B : Base) : List Addr → Hp → V → T → Prop := fun φ H v t => B.rep φ H v t ∧ PlainAt H v
section
variable {B : Base} {k : Nat} {N : List Str} {sc : Scp} {e : Expr} {es : List Expr} {pos : Pos}
/-- tuple(a list), its object told -/
theorem call_tuple_new {X : Cx} : CallR X (.type "tuple") (fun xs H Q => ∃ p ys, xs = [.ref p] ∧ SqL X.K H p ys ∧ ∀ (o : Obj) (l : Addr), o.dict = none → H l = none → Q (.ref l) (upd H l (.frz o (.tup ys)))) := fun pins s σ H xs us Q I r h => by
  obtain ⟨p, ys, rfl, hq, q⟩ := h
  obtain ⟨u, rfl, rx⟩ := r.one
  cases rx
  obtain ⟨its, r', pl, hz⟩ := I.list hq
  have hlen := r'.length
  refine call_tuple_list pl.isList (fun h' kp => ?_) (by simp only [List.size_toArray] <;> omega)
  have I1 : Inv X pins σ H { s with heap := h' } := I.kept (t' := s.toks) kp
  refine ⟨.ref h'.objs.size, _, I1.laid (t' := s.toks) (o := .frz _ (.tup ys)) (fun b o e => Heap.get?_push_of_some _ e) (Nat.le_refl _) ⟨Heap.get?_push_size _ rfl, hz, its, r', IsTup.new _ _⟩, rfl, q _ _ rfl (I1.hok.fresh (Nat.le_refl _))⟩
/-- what is wanted behind a block that ends with such a tuple -/
def PostSP (B : Base) (φ : List Addr) (H : Hp) (r : R (Fl × Env)) (D : Ends) : Prop := match r with
  | .ok (.rt t, _) S' => ∀ φ' H' v, Ext φ H φ' H' → RelS B.K B.mg B.hid φ' S' H' → repP B φ' H' v t → D.rt v H'
  | _ => False
def tSP (B : Base) (m : Env → Sto → R (Fl × Env)) : TS := fun D σ H => ∃ φ ρ S, RelS B.K B.mg B.hid φ S H ∧ RelE B.K B.mg B.hid φ H ρ σ ∧ PostSP B φ H (m ρ S) D
/-- return tuple(e), e a list -/
theorem ret_tuple {m : Env → Sto → R T} {p rp : Pos} (hv : ∀ ρ S t S', m ρ S = .ok t S' → ∃ xs, t = .vl xs) (hg : sc.names.lookup ("tuple" : Str) = some .globalImplicit) (hm : B.mg "tuple" = none) (hs : isStar e = false) (h : IE B k N sc e m) :
    ∀ X, Sit B k N sc X → PSs X [.Return (some (.Call (.Name "tuple" p) [e] [] pos)) rp] (tSP B (fun ρ S => (m ρ S).bind fun x S => (R.opt (btyT "tuple" [vw S x]) S).bind fun v S => .ok (.rt v, ρ) S)) := fun X s => by
  have hst : [e].any isStar = false := by rw [List.any_cons, hs]; rfl
  refine PSs.imp (pss_one (ps_ret (pe_callTy call_tuple_new (gl_of s hg) (by rw [s.hmg]; exact hm) (by kernel_rfl) (pa_cons (h X s) pa_nil (star_head hs)) (by decide) (by decide) (star_head hs) (star_none (es := []) rfl)))) fun D σ H ⟨φ, ρ, S, hS, hE, hp⟩ => ?_
  cases em : m ρ S with
  | bad => simp only [em, R.bind] at hp; exact hp.elim
  | exc => simp only [em, R.bind] at hp; exact hp.elim
  | ok t S1 =>
    obtain ⟨xs, rfl⟩ := hv ρ S t S1 em
    simp only [em, R.bind_ok] at hp
    have hp : PostSP B φ H (.ok (.rt (.tup xs), ρ) S1) D := hp
    refine ⟨φ, ρ, S, hS, hE, ?_⟩
    rw [em]
    intro φ1 H1 v e1 hS1 rv
    cases rv with
    | @vl a vs _ hl n r =>
      rw [s.hK]
      exact ⟨a, vs, rfl, .of hl, fun o l ho hn => hp φ1 _ _ (e1.trans (Ext.upd hn)) (hS1.upd hn) ⟨.tup (.inl ⟨.inr ⟨o, upd_same⟩, hS1.nin hn, hS1.ninH hn⟩) (r.ext (Ext.upd hn)), _, o, vs, rfl, upd_same, ho⟩⟩
structure FnP (B : Base) (tab : Str → Option Fn) (W n : Nat) (fn : Fn) (fa : Addr) (fd : FuncData) : Prop where
  run : ∀ (ψ : List Addr) (A : Around) (outer : List PySem.Env) (s : Shared) (H : Hp) (args : Args) (us : List Value) (vs : List V) (φ : List Addr) (S : Sto) (ts : List T) (Q : VK), Room n A → A.guards = some [] →
    Env0 B.P B.w B.K B.mg B.base A outer s H → BindsTo s fd args (fn.ps.zip us) → Vals vs us → RelS B.K B.mg ψ φ S H → Reps B.K B.mg ψ φ H vs ts → ts.length = fn.ps.length → Post (B.wi ψ) (repP (B.wi ψ)) φ H (runF tab W n fn ts S) Q →
    codeAny (model B.P B.w) A (.call (.ref fa) args) (CR CX0 outer B.P B.w H s Q E0) s
theorem FnP.zero {tab : Str → Option Fn} {W : Nat} {fn : Fn} {fa : Addr} {fd : FuncData} : FnP B tab W 0 fn fa fd := ⟨fun ψ A outer s H args us vs φ S ts Q _ _ _ _ _ _ _ _ hp => hp.elim⟩
theorem gc_postP {φ φ' : List Addr} {H H' : Hp} {S S' : Sto} {u : V} {v : T} {Q : VK} (hS : RelS B.K B.mg B.hid φ S H) (x : Ext φ H φ' H') (hS' : RelS B.K B.mg B.hid φ' S' H') (hv : repP B φ' H' u v) (hp : Post B (repP B) φ H (gc S v S') Q) : Q u H' := by
  have key : Post B B.rep φ H (gc S v S') (fun u H => PlainAt H u → Q u H) := by
    cases h : gc S v S' with
    | ok t S2 => rw [h] at hp; exact fun φ2 H2 w x2 r2 q2 pl => hp φ2 H2 w x2 r2 ⟨q2, pl⟩
    | exc => rw [h] at hp; exact hp
    | bad => rw [h] at hp; exact hp
  exact gc_post hS x hS' hv.1 key hv.2
theorem FnP.succ {tab : Str → Option Fn} {W n : Nat} {fn : Fn} {f : Addr} {x qual : Str} {st : Stmt} {fd : FuncData} {N : List Str} {m : Env → Sto → R (Fl × Env)} (F : Fun B.K x qual st f fd) (hS : FnScope N fn.ps (defScope st)) (hn : fn.n = N.length) (hk : fn.keep = false) (hrt : ∀ ρ S r S', m ρ S = .ok r S' → ∃ t, r.1 = .rt t)
    (hm : ∀ ρ S, execs ⟨callN tab W n, W⟩ fn.body ρ S = m ρ S) (hb : ∀ ψ X, Sit (B.wi ψ) n N { defScope st with own := fun _ => true } X → PSs X (defBody st) (tSP (B.wi ψ) m)) : FnP B tab W (n + 1) fn f fd := by
  obtain ⟨oc, od, kV, doc, pm, an, cdv, ct, osl, rfl, lk, hcd⟩ := F.ex
  refine ⟨fun ψ A outer s H args us vs φ S ts Q hr hg e0 hbd rv rS rts hlen hp => ?_⟩
  have hlv : vs.length = fn.ps.length := rts.length.trans hlen
  have KX : B.K.In s.heap := e0.mod.kin.keeps fun b o e => (e0.bs b o e).1
  have lim : s.heap.NoLimit := e0.mod.nolimit.keeps fun b o e => (e0.bs b o e).1
  have hkind : ∀ y ∈ fn.ps.zip us, (defScope st).names.lookup y.1 = some .local ∨ ((defScope st).names.lookup y.1 = some .cell ∧ ((cellsFrom (s.heap.objs.size + 1) (defScope st).names []).lookup y.1).isSome = true) := fun y hy => by
    have hy' : y.1 ∈ fn.ps := by
      obtain ⟨a, b⟩ := y
      exact (List.of_mem_zip hy).1
    exact (hS.par y.1 hy').imp id fun q => ⟨q, PySem.W.cellsFrom_some _ _ _ (.inl q)⟩
  refine codeAny_call_function hr.depth (KX _ _ lk) rfl hS.co hS.gen rfl (PySem.W.codeRec_of KX hcd) (hbd _ _ _ _ ?_)
  refine wpAny_newFunctionEnv_cells hS.kind hkind fun env he s1 z => ?_
  cases he
  refine ⟨lim.keeps z.toInCall.keep, codeAny_func ?_⟩
  have I := inv_start (CX := CX0) (cd := cdv) (E := E0) hS hr.hd e0 hlv rv z
  have hsit : Sit (B.wi ψ) n N { defScope st with own := fun _ => true } (cxOf CX0 B.P B.w B.K B.mg B.base N qual (defScope st) f cdv A outer s H E0).nox := ⟨rfl, rfl, rfl, rfl, rfl, rfl, hS.nd, rfl, fun _ _ => rfl, rfl, hr.deeper _, deeper_guards.trans hg, rfl⟩
  have hq : tSP (B.wi ψ) m { nx := fun _ H' => Q .non H', rt := Q } (L2.start N vs) H := by
    refine ⟨φ, ts.map some ++ List.replicate (fn.n - ts.length) none, S, rS, start_rel (B := B.wi ψ) rts _ hn, ?_⟩
    unfold runF fin at hp
    simp only [hm, hk] at hp
    cases hr2 : m (ts.map some ++ List.replicate (fn.n - ts.length) none) S with
    | bad => simp only [hr2, R.bind] at hp; exact hp.elim
    | exc => simp only [hr2, R.bind] at hp; exact hp.elim
    | ok r S' =>
      obtain ⟨fl, ρ'⟩ := r
      simp only [hr2, R.bind_ok] at hp
      cases fl with
      | rt t =>
        intro φ' H' u x' r' ru
        exact gc_postP (B := B.wi ψ) rS x' r' ru hp
      | nx => obtain ⟨t, ht⟩ := hrt _ _ _ _ hr2; cases ht
      | bk => exact hp.elim
      | ct => exact hp.elim
  refine wpAny_mono (((hb ψ) _ hsit).nox.run [] s1 _ H _ I hq) (fun fl s' hs => ?_) fun e s' hs => hs
  have fin' : ∀ {σ' : L2.St} {H' : Hp} {v : V} {u : Value}, Inv (cxOf CX0 B.P B.w B.K B.mg B.base N qual (defScope st) f cdv A outer s H E0) [] σ' H' s' → RelV v u → Q v H' → CE outer B.P B.w H s Q u s' :=
    fun J rv' q => ⟨_, _, J.os, J.bare, J.base, J.hok, rv', q⟩
  cases fl with
  | ret u => obtain ⟨v, σ', H', J, rv', q⟩ := hs; exact fin' J rv' q
  | next => obtain ⟨σ', H', J, q⟩ := hs; exact fin' (v := V.non) (u := Value.none) J rfl q
  | brk => obtain ⟨_, _, _, q⟩ := hs; exact q.elim
  | cont => obtain ⟨_, _, _, q⟩ := hs; exact q.elim
structure OwnP (B : Base) (tab : Str → Option Fn) (W n : Nat) (x : Str) (fn : Fn) (fa : Addr) (fd : FuncData) : Prop where
  mg : B.mg x = some (.ref fa)
  keep : PySem.W.keepIn B.K (.ref fa) = true
  run : FnP B tab W n fn fa fd
theorem OwnP.wi {tab : Str → Option Fn} {W : Nat} {x : Str} {fn : Fn} {fa : Addr} {fd : FuncData} (h : OwnP B tab W k x fn fa fd) (ψ : List Addr) : OwnP (B.wi ψ) tab W k x fn fa fd := ⟨h.mg, h.keep, ⟨h.run.run⟩⟩
/-- the callee runs, by place alone -/
theorem run_ownP {X : Cx} {tab : Str → Option Fn} {W : Nat} {x : Str} {fn : Fn} {fa : Addr} {fd : FuncData} {a : Nat} (s : Sit B k N sc X) (F : OwnP B tab W k x fn fa fd) (ht : tab x = some fn) (hb : BindOk fd fn.ps a [])
    {pins : List (Addr × Obj)} {σ : L2.St} {H : Hp} {s' : Shared} {Q : VK} {us : List Value} {vs : List V} {ts : List T} {φ : List Addr} {S : Sto} (I : Inv X pins σ H s') (r : Vals vs us) (hS : RelS B.K B.mg B.hid φ S H) (hv : B.reps φ H vs ts)
    (hl : ts.length = a) (hp : Post B (repP B) φ H (callN tab W k x ts [] S) Q) : wpAny (model X.prog X.w) X.A (call (.ref fa) us) (EP X pins σ Q) X.xe s' := by
  rw [callN_eq ht] at hp
  unfold bindA at hp
  split at hp
  · exact hp.elim
  · rename_i as has
    split at has
    · rename_i hlen
      split at has
      · rename_i r0 hr0
        cases has
        have hlen' : ts.length = fn.ps.length := by simpa using hlen
        have hd : fn.ps.drop ts.length = [] := by rw [hlen']; exact List.drop_length
        have er : r0 = [] := by
          rw [hd] at hr0
          cases hr0; rfl
        subst er
        rw [List.append_nil] at hp
        have e1 : us.length = a := by rw [← r.length, hv.length]; exact hl
        have hbd := hb us [] e1 rfl
        have hda : fn.ps.drop a = [] := by rw [← hl]; exact hd
        rw [hda, List.filterMap_nil, List.append_nil] at hbd
        have e0 := I.env0
        rw [s.hP, s.hw, s.hK, s.hmg, s.hbase] at e0
        refine wpAny_call (codeAny_mono (show codeAny (model X.prog X.w) X.A _ (CR CX0 X.stack X.prog X.w H s' Q E0) s' from ?_) fun rr s'' hq => ?_)
        · rw [s.hP, s.hw]
          exact F.run.run B.hid X.A X.stack s' H _ _ _ φ S _ Q s.room s.gs e0 (.of_eq hbd) r hS hv hlen' hp
        · cases rr with
          | error e => exact hq.elim
          | ok fl =>
            cases fl with
            | ret u => exact I.after hq
            | next => exact hq.elim
            | brk => exact hq.elim
            | cont => exact hq.elim
      · cases has
    · cases has
def tIP (B : Base) (m : Env → Sto → R T) : TE := fun σ H Q => ∃ φ ρ S, RelS B.K B.mg B.hid φ S H ∧ RelE B.K B.mg B.hid φ H ρ σ ∧ Post B (repP B) φ H (m ρ S) Q
theorem pe_ownP {X : Cx} {tab : Str → Option Fn} {W : Nat} {x : Str} {fn : Fn} {fa : Addr} {fd : FuncData} {p : Pos} {ms : Env → Sto → R (List T)} (s : Sit B k N sc X) (hg : sc.names.lookup x = some .globalImplicit) (hd : (x == ("__debug__" : Str)) = false) (F : OwnP B tab W k x fn fa fd)
    (ht : tab x = some fn) (hb : BindOk fd fn.ps (es.length + 1) []) (hs : (e :: es).any isStar = false) (ha : IA B k N sc (e :: es) ms) (hl : ∀ ρ S ts S', ms ρ S = .ok ts S' → ts.length = es.length + 1) :
    PE X (.Call (.Name x p) (e :: es) [] pos) (tIP B (fun ρ S => (ms ρ S).bind fun xs S => callN tab W k x xs [] S)) := by
  refine ⟨fun pins s' σ H Q I ⟨φ, ρ, S, hS, hE, hp⟩ => ?_⟩
  have hmx : X.mg x = some (.ref fa) := by rw [s.hmg]; exact F.mg
  have hkx : PySem.W.keepIn X.K (.ref fa) = true := by rw [s.hK]; exact F.keep
  refine wpAny_Call_Name_kw (ld_glob I (gl_of s hg) hmx ?_ hd)
  rw [List.any_cons, Bool.or_eq_false_iff] at hs
  have hargs : tAs B ms σ H fun vs H1 => ∃ φ1 ts S1, ts.length = es.length + 1 ∧ RelS B.K B.mg B.hid φ1 S1 H1 ∧ B.reps φ1 H1 vs ts ∧ Post B (repP B) φ1 H1 (callN tab W k x ts [] S1) Q :=
    ⟨φ, ρ, S, hS, hE, hp.bind fun ts S1 φ1 H1 vs em e1 hS1 rv hp1 => ⟨φ1, ts, S1, hl _ _ _ _ em, hS1, rv, hp1⟩⟩
  refine PySem.W.callWith_K (h₀ := X.base) I.ok.mod.kin hkx (thn ((ha X s).run pos pins s' σ H _ I hargs) fun us s1 ⟨vs, H1, I1, r, φ1, ts, S1, hlt, hS1, rv, hp1⟩ => ⟨I1.kIn, ?_⟩) (star_head hs.1) (star_none hs.2)
  exact run_ownP s F ht hb I1 r hS1 rv hlt hp1
/-- such a tuple has the methods of its type -/
theorem ty_plain {X : Cx} : TyOk X "tuple" (fun x H => PlainAt H x) := fun pins σ H s x v I r ty => by
  obtain ⟨a, o, vs, rfl, ha, ho⟩ := ty
  cases r
  obtain ⟨h1, h2⟩ := I.hok a _ ha
  obtain ⟨_, _, _, hT⟩ := h2
  refine ⟨hT.typeIs, fun b e => ?_⟩
  cases e
  exact ⟨o, h1, ho⟩
theorem ie_cix {tab : Str → Option Fn} {W : Nat} {x : Str} {fn : Fn} {fa : Addr} {fd : FuncData} {p p1 apos : Pos} {y : Expr} {ms : Env → Sto → R (List T)} {my : Env → Sto → R T} (hg : sc.names.lookup x = some .globalImplicit) (hd : (x == ("__debug__" : Str)) = false) (F : OwnP B tab W k x fn fa fd)
    (ht : tab x = some fn) (hb : BindOk fd fn.ps (es.length + 1) []) (hs : (e :: es).any isStar = false) (ha : IA B k N sc (e :: es) ms) (hl : ∀ ρ S ts S', ms ρ S = .ok ts S' → ts.length = es.length + 1) (hy : IE B k N sc y my) (hys : isStar y = false) (hline : (apos.endLine == pos.line) = true) :
    IE B k N sc (.Call (.Attribute (.Call (.Name x p) (e :: es) [] p1) "index" apos) [y] [] pos) (fun ρ S => (ms ρ S).bind fun xs S => (callN tab W k x xs [] S).bind fun v S => (my ρ S).bind fun y S => (match v with
      | .tup ts => R.opt (ixT ts y) S
      | _ => .bad)) := fun X s => by
  have hys' : [y].any isStar = false := by rw [List.any_cons, hys]; rfl
  refine PE.imp (pe_mG ty_plain PySem.F.plainAttrs_tuple PySem.F.slot_tuple_index PySem.F.type_tuple_index (mt_place_tup s.room.units) (pe_ownP (pos := p1) s hg hd F ht hb hs ha hl) (pa_cons (hy X s) pa_nil (star_head hys)) (by unfold attributeBase; rfl) (few_ok hys' (by simp)) hline (star_head hys) (star_none (es := []) rfl)) fun σ H Q ⟨φ, ρ, S, hS, hE, hp⟩ => ?_
  refine ⟨φ, ρ, S, hS, hE, ?_⟩
  have hp' : Post B B.rep φ H (((ms ρ S).bind fun xs S => callN tab W k x xs [] S).bind fun v S => (my ρ S).bind fun y S => (match v with
      | .tup ts => R.opt (ixT ts y) S
      | _ => .bad)) Q := by rw [R.bind_assoc]; exact hp
  refine Post.bind (rep := repP B) hp' fun t S1 φ1 H1 v _ e1 hS1 rv hp1 => ?_
  obtain ⟨rv, pl⟩ := rv
  refine ⟨pl, φ1, ρ, S1, hS1, hE.ext e1, hp1.bind fun u S2 φ2 H2 w _ e2 hS2 rw2 hp2 => ?_⟩
  cases t with
  | tup ts =>
    have rv2 := rv.ext e2
    cases rv2 with
    | tup hq r => rw [s.hK]; exact place_read hq.sq r (.cons rw2 .nil) hS2 hp2
  | _ => exact hp2.elim
end
end Px
end
section
set_option linter.all false
set_option maxRecDepth 100000
/-! Px12c: stars among arguments and items, x, y, *z = a tuple, match upon a text. -/
namespace Px
open PySem PySem.Spec PyProof.Rows L2
section
variable {B : Base} {k : Nat} {N : List Str} {sc : Scp} {e : Expr} {es : List Expr} {pos : Pos}
theorem Post.optB {α β γ : Type} {rep : List Addr → Hp → γ → β → Prop} {φ : List Addr} {H : Hp} {S : Sto} {o : Option α} {f : α → Sto → R β} {Q : γ → Hp → Prop} (h : Post B rep φ H ((R.opt o S).bind f) Q) : ∃ t, o = some t ∧ Post B rep φ H (f t S) Q := by
  cases o with
  | none => exact h.elim
  | some t => exact ⟨t, rfl, h⟩
theorem seqT_inv {t : T} {xs : List T} (h : seqT t = some xs) : t = .tup xs ∨ t = .vl xs := by
  cases t <;> first | (cases h; done) | (cases h; exact .inl rfl) | (cases h; exact .inr rfl)
theorem ia_star {m : Env → Sto → R T} {ms : Env → Sto → R (List T)} {p : Pos} (ha : IE B k N sc e m) (hr : IA B k N sc es ms) :
    IA B k N sc (.Starred e p :: es) (fun ρ S => (m ρ S).bind fun x S => (R.opt (seqT (vw S x)) S).bind fun xs S => (ms ρ S).bind fun ys S => .ok (xs ++ ys) S) := fun X s => by
  refine PA.imp (StX.pa_star (ha X s) (hr X s)) fun σ H Q ⟨φ, ρ, S, hS, hE, hp⟩ => ?_
  refine ⟨φ, ρ, S, hS, hE, hp.bind fun t S1 φ1 H1 v _ e1 hS1 rv hp1 => ?_⟩
  obtain ⟨xs, hx, hp1⟩ := Post.optB hp1
  rw [s.hK]
  have fin : ∀ {vs : List V}, B.reps φ1 H1 vs xs → tAs B ms σ H1 fun ys H2 => Q (vs ++ ys) H2 := fun {vs} r =>
    ⟨φ1, ρ, S1, hS1, hE.ext e1, hp1.bind fun ys S2 φ2 H2 ws _ e2 hS2 rw2 hp2 => hp2.ok hS2 ((r.ext e2).append rw2)⟩
  rcases seqT_inv hx with h | h
  · obtain ⟨a, vs, rfl, h1, r⟩ := seen_tup rv h
    exact ⟨a, vs, rfl, .inl h1, fin r⟩
  · obtain ⟨a, vs, rfl, h1, r⟩ := seen_list hS1 rv h
    exact ⟨a, vs, rfl, .inr (.of h1), fin r⟩
/-- f(e, .., *x) -/
theorem ie_callS {tab : Str → Option Fn} {W : Nat} {x : Str} {fn : Fn} {fa : Addr} {fd : FuncData} {a : Nat} {p : Pos} {ms : Env → Sto → R (List T)} (hg : sc.names.lookup x = some .globalImplicit) (hd : (x == ("__debug__" : Str)) = false) (F : OwnFn B tab W k x fn fa fd)
    (ht : tab x = some fn) (hb : BindOk fd fn.ps a []) (hs : isStar e = false) (hst : es.any isStar = true) (ha : IA B k N sc (e :: es) ms) :
    IE B k N sc (.Call (.Name x p) (e :: es) [] pos) (fun ρ S => (ms ρ S).bind fun xs S => if xs.length = a then callN tab W k x xs [] S else .bad) := fun X s => by
  refine ⟨fun pins s' σ H Q I ⟨φ, ρ, S, hS, hE, hp⟩ => ?_⟩
  have hmx : X.mg x = some (.ref fa) := by rw [s.hmg]; exact F.mg
  have hkx : PySem.W.keepIn X.K (.ref fa) = true := by rw [s.hK]; exact F.keep
  refine wpAny_Call_Name_kw (ld_glob I (gl_of s hg) hmx ?_ hd)
  have hargs : tAs B ms σ H fun vs H1 => ∃ φ1 ts S1, ts.length = a ∧ RelS B.K B.mg B.hid φ1 S1 H1 ∧ B.reps φ1 H1 vs ts ∧ Post B B.rep φ1 H1 (callN tab W k x ts (([] : List Str).zip ([] : List T)) S1) Q :=
    ⟨φ, ρ, S, hS, hE, hp.bind fun ts S1 φ1 H1 vs em e1 hS1 rv hp1 => by
      split at hp1
      · rename_i hl
        exact ⟨φ1, ts, S1, hl, hS1, rv, hp1⟩
      · exact hp1.elim⟩
  have hany : (backTo pos (starEach es X.env)).any (·.1) = true := by
    clear ha hargs hp hb
    induction es with
    | nil => cases hst
    | cons u us ih =>
      rw [List.any_cons, Bool.or_eq_true] at hst
      cases hu : isStar u with
      | true =>
        cases u <;> first | (cases hu; done) | skip
        rfl
      | false =>
        have : us.any isStar = true := by simpa [hu] using hst
        have ih' := ih this
        rw [star_head hu]
        show ((false, _) :: backTo pos (starEach us X.env)).any (·.1) = true
        rw [List.any_cons, ih']
        rfl
  refine PySem.W.callWith_S2 (h₀ := X.base) I.ok.mod.kin hkx (thn ((ha X s).run pos pins s' σ H _ I hargs) fun us s1 ⟨vs, H1, I1, r, φ1, ts, S1, hlt, hS1, rv, hp1⟩ => ⟨I1.kIn, ?_⟩) (star_head hs) hany
  exact run_own (ws := []) (ks := []) s F ht hb I1 r .nil hS1 rv .nil hlt rfl hp1

/-! ### x, y, *z = a tuple -/
theorem star_items2 {prog : Program} {w : World} {A : Around} {E : Value → Shared → Prop} {s : Shared} {l : Addr} {items : Array Value} {Q : List Value → Shared → Prop} (hl : IsTup s.heap l items) (hh : A.handled = none) (hn : 2 ≤ items.size) (hz : items.size ≤ 16000000)
    (h : ∀ (h' : Heap) (tk : Nat), (∀ b o, s.heap.get? b = some o → h'.get? b = some o) → Q (items.toList.take 2 ++ [.ref h'.objs.size]) { s with heap := h'.push { cls := .type "list", data := .seq (items.toList.drop 2).toArray }, toks := tk }) :
    wpAny (model prog w) A (unpackItems (.ref l) 3 (some 2)) Q E s := by
  have hlt : l ≠ s.heap.objs.size := by obtain ⟨o, ho, _⟩ := hl; exact Nat.ne_of_lt (Heap.lt_size ho)
  unfold unpackItems
  refine wpAny_bind ?_
  unfold notIterableAtAll
  refine wpAny_bind (wpAny_specialOf hl.typeIs slot_tuple_iter.lookup ?_)
  refine wpAny_pure ?_
  simp only [Bool.false_eq_true, if_false]
  refine wpAny_bind (wpAny_holding (iter_tuple hl ?_))
  refine wpAny_bind (wpAny_holding (draw_tuple hlt 2 0 _ _ ⟨_, Heap.get?_push_size _ rfl, rfl, rfl⟩ (hl.push _) (by omega) fun h₁ hit₁ hs₁ => ?_))
  have hl₁ : IsTup h₁ l items := (hl.push _).extBut hs₁.extBut hlt
  rw [Nat.zero_add] at hit₁
  have hit₁' := hit₁
  obtain ⟨oi, hoi, _⟩ := hit₁'
  have hl₁' := hl₁
  obtain ⟨ol, hol, _⟩ := hl₁'
  rw [List.drop_zero]
  have hfl : (items.toList.take 2).length = 2 := by rw [List.length_take, Array.length_toList]; omega
  rw [if_neg (show ¬ ((items.toList.take 2).length < 2) by rw [hfl]; omega)]
  refine wpAny_bind (wpAny_holding (PySem.W.kun_collect (s := { s with heap := h₁ }) (T := "tuple_iterator") (.inr (.inr (.inr rfl))) (Walks.tuple (A := A.in1) hh s.heap.objs.size l hlt items) (fun j u st => st.1.typeIs) (k := 2) (by omega) ⟨hit₁, hl₁⟩ (Heap.lt_size hoi) (Heap.lt_size hol) (fun h₂ tk hk => ?_) (by rw [sizeLine_eq]; omega)))
  show wpAny _ _ (newList ((items.toList.drop 2).take ((items.toList.drop 2).length - 0)) >>= fun d => pure (items.toList.take 2 ++ [d] ++ (items.toList.drop 2).drop ((items.toList.drop 2).length - 0))) _ _ _
  rw [Nat.sub_zero, List.take_length, List.drop_length]
  refine wpAny_bind (wpAny_newList (wpAny_pure ?_) (by rw [List.length_drop, Array.length_toList, sizeLine_eq]; omega))
  rw [List.append_nil]
  exact h h₂ tk fun b o e => hk b o (Nat.ne_of_lt (Heap.lt_size e)) (hs₁.extBut b o (Nat.ne_of_lt (Heap.lt_size e)) (Heap.get?_push_of_some _ e))
def gStar2 (K : PySem.W.Frag) (i j l : Nat) : TG := fun v σ H Q => ∃ a x y xs, v = .ref a ∧ SqT K H a (x :: y :: xs) ∧ xs.length ≤ 1000000 ∧ ∀ p, H p = none → Q (((σ.set i (some x)).set j (some y)).set l (some (.ref p))) (L2.upd H p (.lst xs))
theorem pg_star2 {X : Cx} {x y z : Str} {i j l q : Nat} {px py pz ps : Pos} (s : Sit B k N sc X) (hi : N[i]? = some x) (hx : mayStore sc x = true) (hj : N[j]? = some y) (hy : mayStore sc y = true) (hl : N[l]? = some z) (hz : mayStore sc z = true) :
    PG X (.Tuple [.Name x px, .Name y py, .Starred (.Name z pz) ps] q pos) (gStar2 X.K i j l) := by
  refine ⟨fun pins s' σ H v u Q I r hw => ?_⟩
  obtain ⟨a, t, t2, xs, rfl, hq, hlx, hw⟩ := hw
  cases r
  obtain ⟨its, rv, ht, hz1⟩ := I.tuple hq
  cases rv with
  | @cons _ w _ _ r1 rr =>
    cases rr with
    | @cons _ w2 _ ws r2 rr =>
      rw [assign_Tuple]
      refine wpAny_bind (wpAny_standAt ?_)
      unfold unpack
      show wpAny _ _ (holding [.ref a] (unpackItems (.ref a) 3 (some 2)) >>= _) _ _ _
      have hlen := rr.length
      refine wpAny_bind (wpAny_holding (star_items2 ht (I.ok.hd s.calm) (by simp) (by simp; omega) fun h' tk hk => ?_))
      have I1 : Inv X pins σ H { s' with heap := h', toks := tk } := I.kept (t' := tk) hk
      have hf : H h'.objs.size = none := I1.hok.fresh (Nat.le_refl _)
      have I2 : Inv X pins σ (L2.upd H h'.objs.size (.lst xs)) { s' with heap := h'.push { cls := .type "list", data := .seq ws.toArray }, toks := tk } := I1.laid (t' := tk) (o := .lst xs) (fun b u e => Heap.get?_push_of_some _ e) (Nat.le_refl _) ⟨by rw [sizeLine_eq]; omega, ws, 0, rr, Heap.get?_push_size _ rfl⟩
      have G := pgs_cons (pg_of (pos := px) s hi hx) (pgs_cons (pg_of (pos := py) s hj hy) (pgs_cons (pg_of (pos := pz) s hl hz) pgs_nil))
      exact G.run pins _ σ _ [t, t2, .ref h'.objs.size] [w, w2, .ref h'.objs.size] Q I2 (.cons r1 (.cons r2 (.cons rfl .nil))) ⟨t, _, rfl, _, _, rfl, _, _, rfl, rfl, hw _ hf⟩
theorem is_stars2 {x y z : Str} {i j l q : Nat} {px py pz ps pt : Pos} {m : Env → Sto → R T} (hi : N[i]? = some x) (hx : mayStore sc x = true) (hj : N[j]? = some y) (hy : mayStore sc y = true) (hl : N[l]? = some z) (hz : mayStore sc z = true) (h : IE B k N sc e m)
    (hs : ∀ env, swapsWithSole [.Tuple [.Name x px, .Name y py, .Starred (.Name z pz) ps] q pt] e pos.line env = pure false) (hw : ∀ env, swappedStores [.Tuple [.Name x px, .Name y py, .Starred (.Name z pz) ps] q pt] e env = pure none) :
    IS B k N sc (.Assign [.Tuple [.Name x px, .Name y py, .Starred (.Name z pz) ps] q pt] e pos) (fun ρ S => (m ρ S).bind fun v S => (match v with
    | .tup xs => if [i, j].length ≤ xs.length ∧ xs.length ≤ 1000000 then (R.opt (asgs [i, j] (xs.take [i, j].length) ρ) S).bind fun ρ S => .ok (.nx, ρ.set l (some (.vl (xs.drop [i, j].length)))) S else .bad
    | _ => .bad)) := fun X s => by
  refine PS.imp (ps_asg (h X s) (pg_star2 s hi hx hj hy hl hz) (hs _) (hw _) (h1 := assign1 rfl)) fun D σ H ⟨φ, ρ, S, hS, hE, hp⟩ => ⟨φ, ρ, S, hS, hE, hp.bind fun t S1 φ1 H1 v _ e1 hS1 rv hp1 => ?_⟩
  cases t with
  | tup ts =>
    simp only at hp1
    split at hp1
    · rename_i hlen
      match ts, hlen, hp1, rv with
      | [], hlen, _, _ => simp at hlen
      | [_], hlen, _, _ => simp at hlen
      | u :: u2 :: us, hlen, hp1, rv =>
        obtain ⟨a, vs, rfl, h3, h4⟩ := seen_tup (S := S1) rv rfl
        cases h4 with
        | cons r1 rr =>
          cases rr with
          | cons r2 rr =>
            rw [s.hK]
            refine ⟨a, _, _, _, rfl, h3, by rw [rr.length]; have := hlen.2; simp at this; omega, fun p hn => ?_⟩
            exact hp1 φ1 _ _ (Ext.upd hn) (hS1.upd hn) (((((hE.ext e1).ext (Ext.upd hn)).set i (r1.ext (Ext.upd hn))).set j (r2.ext (Ext.upd hn))).set l (.vl upd_same ⟨hS1.nin hn, hS1.ninH hn⟩ (rr.ext (Ext.upd hn))))
    · exact hp1.elim
  | _ => exact hp1.elim

/-! ### match upon a text -/
def IM (B : Base) (k : Nat) (N : List Str) (sc : Scp) (cs : List MatchCase) (m : Str → Env → Sto → R (Fl × Env)) : Prop := ∀ X, Sit B k N sc X → ∀ (z : Str) (tk : Tok) (first : Bool) (pins : List (Addr × Obj)) (s : Shared) (σ : L2.St) (H : Hp) (D : Ends),
  Inv X pins σ H s → tS B (m z) D σ H → wpAny (model X.prog X.w) X.A (matchCases cs X.env (.str z tk) first) (SP X pins D) X.xe s
theorem im_nil : IM B k N sc [] (fun _ ρ S => .ok (.nx, ρ) S) := fun X s z tk first pins s' σ H D I ⟨φ, ρ, S, hS, hE, hp⟩ =>
  wpAny_matchCases_nil ⟨σ, H, I, hp φ H σ Ext.refl hS hE⟩
theorem im_all {body : List Stmt} {rest : List MatchCase} {mp : Pos} {mb : Env → Sto → R (Fl × Env)} (hb : ISs B k N sc body mb) : IM B k N sc (⟨.MatchAs none none mp, none, body⟩ :: rest) (fun _ => mb) := fun X s z tk first pins s' σ H D I h => by
  refine wpAny_matchCases_cons (wpAny_matchPattern_Capture ?_)
  show wpAny _ _ (assignInOrder [] []) _ _ _
  exact wpAny_pure ((hb X s).run pins s' σ H D I h)
theorem im_str {w : Str} {j : Nat} {p mp : Pos} {body : List Stmt} {rest : List MatchCase} {mb : Env → Sto → R (Fl × Env)} {mr : Str → Env → Sto → R (Fl × Env)} (hb : ISs B k N sc body mb) (hr : IM B k N sc rest mr) :
    IM B k N sc (⟨.MatchValue (.Constant (.str w) j p) mp, none, body⟩ :: rest) (fun z ρ S => if z = w then mb ρ S else mr z ρ S) := fun X s z tk first pins s' σ H D I h => by
  refine wpAny_matchCases_cons (wpAny_matchPattern_Value ?_)
  refine thn ((pe_str (X := X) (x := w) (j := j) (pos := p)).run pins s' σ H (fun v H' => v = .str w ∧ H' = H) I ⟨rfl, rfl⟩) fun u s1 ⟨v, H1, I1, rv, ev, eH⟩ => ?_
  subst ev eH
  refine thn (op_eq pins s1 σ H1 (.str z) (.str w) (.str z tk) u (fun v H' => v = .bl (decide (z = w)) ∧ H' = H1) I1 ⟨tk, rfl⟩ rv ⟨rfl, by simp, rfl⟩) fun c s2 ⟨v, H2, I2, rv2, ev, eH⟩ => ?_
  subst ev eH
  cases rv2
  refine wpAny_truthy_bool ?_
  by_cases hz : z = w
  · simp only [hz, decide_true, if_true] at h ⊢
    show wpAny _ _ (assignInOrder [] []) _ _ _
    exact wpAny_pure ((hb X s).run pins s2 σ H2 D I2 h)
  · simp only [hz, decide_false, if_false, Bool.false_eq_true] at h ⊢
    exact hr X s z tk false pins s2 σ H2 D I2 h
theorem is_match {x : Str} {i : Nat} {xp : Pos} {cs : List MatchCase} {m : Str → Env → Sto → R (Fl × Env)} (hN : N[i]? = some x) (hv : Vis sc.toScope x) (hd : (x == ("__debug__" : Str)) = false) (hcd : (x == ("__classdict__" : Str)) = false) (hm : IM B k N sc cs m) :
    IS B k N sc (.Match (.Name x xp) cs pos) (fun ρ S => match ρ[i]? with
      | some (some (.str z)) => m z ρ S
      | _ => .bad) := fun X s => by
  refine ⟨fun pins s' σ H D I ⟨φ, ρ, S, hS, hE, hp⟩ => ?_⟩
  have key : ∃ z, ρ[i]? = some (some (.str z)) ∧ PostS B φ H (m z ρ S) D := by
    cases h : ρ[i]? with
    | none => simp only [h] at hp; exact hp.elim
    | some o =>
      cases o with
      | none => simp only [h] at hp; exact hp.elim
      | some t =>
        simp only [h] at hp
        cases t <;> first | exact ⟨_, rfl, hp⟩ | exact hp.elim
  obtain ⟨z, hz, hp⟩ := key
  obtain ⟨v, h1, h2⟩ := hE.get i _ hz
  cases h2
  refine wpAny_Match (thn ((pe_var (X := X) (i := i) (x := x) (by rw [s.hN]; exact hN) (by rw [s.hsc]; exact hv) hd hcd).run pins s' σ H (fun v H' => v = .str z ∧ H' = H) I ⟨_, h1, rfl, rfl⟩) fun u s1 ⟨v, H1, I1, rv, ev, eH⟩ => ?_)
  subst ev eH
  obtain ⟨tk, rfl⟩ := rv
  exact hm X s z tk true pins s1 σ H1 D I1 ⟨φ, ρ, S, hS, hE, hp⟩
end
end Px
end
section
set_option linter.all false
set_option maxRecDepth 100000
/-! Px13: a look whether an expression of the text is one of mine; then it is reckoned soundly. -/
namespace Px
open PySem PySem.Spec PyProof.Rows L2

structure Dat where
  N : List Str
  con : List (Str × T)
  bl : List Str
  calls : List (Str × Nat × List Str)
  kd : List (Str × List Str × List T)
  pls : List (Str × Nat)
structure Kn (B : Base) (tab : Str → Option Fn) (W k : Nat) (D : Dat) : Prop where
  con : ∀ p ∈ D.con, ∃ u v, B.mg p.1 = some u ∧ RelV v u ∧ ∀ ψ φ H, Rep B.K B.mg ψ φ H v p.2
  bl : ∀ x ∈ D.bl, B.mg x = none
  own : ∀ p ∈ D.calls, ∃ fn fa fd, OwnFn B tab W k p.1 fn fa fd ∧ tab p.1 = some fn ∧ BindOk fd fn.ps p.2.1 p.2.2
  kd : ∀ p ∈ D.kd, KD B p.1 p.2.1 p.2.2
  pl : ∀ p ∈ D.pls, ∃ fn fa fd, OwnP B tab W k p.1 fn fa fd ∧ tab p.1 = some fn ∧ BindOk fd fn.ps p.2 []
theorem OwnFn.wi {B : Base} {tab : Str → Option Fn} {W k : Nat} {x : Str} {fn : Fn} {fa : Addr} {fd : FuncData} (h : OwnFn B tab W k x fn fa fd) (ψ : List Addr) : OwnFn (B.wi ψ) tab W k x fn fa fd := ⟨h.mg, h.keep, ⟨h.run.run⟩⟩
theorem Kn.wi {B : Base} {tab : Str → Option Fn} {W k : Nat} {D : Dat} (h : Kn B tab W k D) (ψ : List Addr) : Kn (B.wi ψ) tab W k D :=
  ⟨h.con, h.bl, fun p hp => by obtain ⟨fn, fa, fd, a, b, c⟩ := h.own p hp; exact ⟨fn, fa, fd, a.wi ψ, b, c⟩, fun p hp => (h.kd p hp).wi ψ, fun p hp => by obtain ⟨fn, fa, fd, a, b, c⟩ := h.pl p hp; exact ⟨fn, fa, fd, a.wi ψ, b, c⟩⟩

inductive Md where | E | T | W | F
deriving DecidableEq
/-- and, or of one alone is that one -/
def nrm : Md → Expr → Md × Expr
  | .W, .BoolOp _ [a] _ => (.T, a)
  | .E, .BoolOp _ [a] _ => (.E, a)
  | m, e => (m, e)
/-- how an expression is wanted that is no test of its own -/
def tOk : Md × Expr → Bool
  | (.E, _) => true
  | (.T, .UnaryOp .Not _ _) => false
  | (.T, .BoolOp _ _ _) => false
  | (.T, .IfExp _ _ _ _) => false
  | (.T, .Compare _ _ _ _) => false
  | (.T, _) => true
  | _ => false
def visB (sc : Scp) (x : Str) : Bool := sc.names.lookup x == some .local || sc.names.lookup x == some .cell || sc.names.lookup x == some .free
def globB (sc : Scp) (x : Str) : Bool := sc.names.lookup x == some .globalImplicit && !(x == ("__debug__" : Str))
def conB : Const → T → Bool
  | .int i, .int j => i == j
  | .bool b, .bl c => b == c
  | .none, .non => true
  | .str x, .str y => x == y
  | _, _ => false
mutual
def T.eqb : T → T → Bool
  | .non, .non => true
  | .bl b, .bl c => b == c
  | .int i, .int j => i == j
  | .str x, .str y => x == y
  | .tup xs, .tup ys => T.eqbL xs ys
  | _, _ => false
def T.eqbL : List T → List T → Bool
  | [], [] => true
  | x :: xs, y :: ys => T.eqb x y && T.eqbL xs ys
  | _, _ => false
end
mutual
theorem T.eqb_eq : ∀ {a b : T}, T.eqb a b = true → a = b
  | .non, b, h => by cases b <;> first | rfl | (simp [T.eqb] at h)
  | .bl b, c, h => by cases c <;> simp [T.eqb] at h; rw [h]
  | .int b, c, h => by cases c <;> simp [T.eqb] at h; rw [h]
  | .str b, c, h => by cases c <;> simp [T.eqb] at h; rw [h]
  | .tup xs, c, h => by cases c <;> simp [T.eqb] at h; rw [T.eqbL_eq h]
  | .vl _, c, h => by simp [T.eqb] at h
  | .vd _ _, c, h => by simp [T.eqb] at h
  | .scr _, c, h => by simp [T.eqb] at h
  | .loc _, c, h => by simp [T.eqb] at h
  | .ty _, c, h => by simp [T.eqb] at h
  | .gl _, c, h => by simp [T.eqb] at h
theorem T.eqbL_eq : ∀ {a b : List T}, T.eqbL a b = true → a = b
  | [], b, h => by cases b <;> first | rfl | (simp [T.eqbL] at h)
  | x :: xs, b, h => by
    cases b with
    | nil => simp [T.eqbL] at h
    | cons y ys =>
      simp [T.eqbL] at h
      rw [T.eqb_eq h.1, T.eqbL_eq h.2]
end
def nameCon (D : Dat) (x : Str) : T → Bool
  | .ty n => D.bl.contains x && !(x == ("__name__" : Str)) && ((x == "int" && n == "int") || (x == "bool" && n == "bool") || (x == "str" && n == "str") || (x == "tuple" && n == "tuple") || (x == "list" && n == "list") || (x == "dict" && n == "dict"))
  | t => D.con.any fun p => p.1 == x && T.eqb p.2 t
def opB : BOp → Operator → Bool
  | .add, .Add => true
  | .sub, .Sub => true
  | .mul, .Mult => true
  | .fdiv, .FloorDiv => true
  | .mod, .Mod => true
  | .pow, .Pow => true
  | _, _ => false
def cmpB : COp → CmpOp → Bool
  | .eq, .Eq => true
  | .ne, .NotEq => true
  | .lt, .Lt => true
  | .le, .LtE => true
  | .gt, .Gt => true
  | .ge, .GtE => true
  | .in_, .In => true
  | .nin, .NotIn => true
  | .is_, .Is => true
  | .isn, .IsNot => true
  | _, _ => false
def notSlice : Expr → Bool
  | .Slice .. => false
  | _ => true
def isTup : Expr → Bool
  | .Tuple .. => true
  | _ => false
def notCall : Expr → Bool
  | .Call .. => false
  | _ => true
def notSet : Expr → Bool
  | .Set .. => false
  | _ => true
def igsB (N : List Str) (sc : Scp) : List Expr → List Nat → Bool
  | [], [] => true
  | .Name x _ :: es, i :: is => N[i]? == some x && mayStore sc x && igsB N sc es is
  | _, _ => false
def ckG (D : Dat) (sc : Scp) : Expr → Tg → Bool
  | .Name x _, .nm i => D.N[i]? == some x && mayStore sc x
  | .Tuple es _ _, .tps is => igsB D.N sc es is
  | _, _ => false
def ownOf (N : List Str) (own : List Nat) : List (Str × Nat) := own.map fun i => ((N[i]?).getD ⟨#[]⟩, i)
def blkB (N : List Str) (sc scope : Scope) (own : List (Str × Nat)) : Bool :=
  scope.kind == .function && (scope.names.all fun y => scope.names.lookup y.1 == some y.2) && (own.all fun p => N[p.2]? == some p.1) &&
  (scope.names.all fun y => !(y.2 == .free) || (sc.names.lookup y.1 == some .cell || sc.names.lookup y.1 == some .free)) &&
  (scope.names.all fun y => !(y.2 == .local || y.2 == .cell) || ((own.map (·.1)).contains y.1 || !(N.contains y.1)))
theorem blk_ok {N : List Str} {sc scope : Scope} {own : List (Str × Nat)} (h : blkB N sc scope own = true) : BlkOk N sc scope own := by
  simp only [blkB, Bool.and_eq_true, List.all_eq_true, beq_iff_eq, Bool.or_eq_true, Bool.not_eq_true', Bool.or_eq_false_iff, List.contains_iff_mem] at h
  obtain ⟨⟨⟨⟨h1, h2⟩, h3⟩, h4⟩, h5⟩ := h
  refine ⟨h1, h2, h3, fun y hy e => ?_, fun y hy e => ?_⟩
  · rcases h4 y hy with q | q
    · simp [e] at q
    · exact q
  · rcases h5 y hy with q | q
    · rcases e with e | e <;> simp [e] at q
    · rcases q with q | q
      · exact .inl q
      · exact .inr (by simpa using q)
def biB (f x : Str) : Bool := x == f && (f == "len" || f == "all" || f == "any" || f == "abs" || f == "max" || f == "min" || f == "isinstance" || f == "repr")
def btB (f : String) (x : Str) : Bool := (f == "int" && x == "int") || (f == "tuple" && x == "tuple") || (f == "list" && x == "list") || (f == "str" && x == "str")
def mtB (m : Str) : Bool := m == "append" || m == "extend" || m == "pop" || m == "insert" || m == "count" || m == "index"

mutual
def ck (D : Dat) : Md → Scp → Expr → Ex → Bool
  | md, sc, e, .loc i => tOk (nrm md e) && (match (nrm md e).2 with
    | .Name x _ => D.N[i]? == some x && visB sc x && !(x == ("__debug__" : Str)) && !(x == ("__classdict__" : Str))
    | _ => false)
  | md, sc, e, .con t => tOk (nrm md e) && (match (nrm md e).2 with
    | .Constant c _ _ => conB c t
    | .Name x _ => globB sc x && nameCon D x t
    | _ => false)
  | md, sc, e, .bin op a b => (match md, e with
    | .F, .BinOp l .Add r _ => (match op with | .add => true | _ => false) && ck D .E sc l a && ck D .E sc r b
    | _, _ => tOk (nrm md e) && (match (nrm md e).2 with
      | .BinOp l o r _ => opB op o && ck D .E sc l a && ck D .E sc r b
      | _ => false))
  | md, sc, e, .neg a => tOk (nrm md e) && (match (nrm md e).2 with
    | .UnaryOp .USub l _ => ck D .E sc l a
    | _ => false)
  | md, sc, e, .not a => (match nrm md e with
    | (.E, .UnaryOp .Not l _) => ck D .E sc l a
    | (.T, .UnaryOp .Not l _) => ck D .T sc l a
    | _ => false)
  | md, sc, e, .and a b => (match nrm md e with
    | (.E, .BoolOp .And (l :: l' :: r) p) => ck D .E sc l a && ck D .E sc (.BoolOp .And (l' :: r) p) b
    | (.T, .BoolOp .And (l :: l' :: r) p) => ck D .T sc l a && ck D .W sc (.BoolOp .And (l' :: r) p) b
    | (.W, .BoolOp .And (l :: l' :: r) p) => ck D .T sc l a && ck D .W sc (.BoolOp .And (l' :: r) p) b
    | _ => false)
  | md, sc, e, .or a b => (match nrm md e with
    | (.E, .BoolOp .Or (l :: l' :: r) p) => ck D .E sc l a && ck D .E sc (.BoolOp .Or (l' :: r) p) b
    | (.T, .BoolOp .Or (l :: l' :: r) p) => ck D .T sc l a && ck D .W sc (.BoolOp .Or (l' :: r) p) b
    | (.W, .BoolOp .Or (l :: l' :: r) p) => ck D .T sc l a && ck D .W sc (.BoolOp .Or (l' :: r) p) b
    | _ => false)
  | md, sc, e, .cmp op a b => (match nrm md e with
    | (.E, .Compare l [o] [r] _) => cmpB op o && !behindInMarks o r && ck D .E sc l a && ck D .E sc r b
    | (.T, .Compare l [o] [r] _) => cmpB op o && !behindInMarks o r && ck D .E sc l a && ck D .E sc r b
    | _ => false)
  | md, sc, e, .cmp2 o1 o2 a b c => (match nrm md e with
    | (.E, .Compare l [p1, p2] [r, q] _) => cmpB o1 p1 && cmpB o2 p2 && !lastMarks [p1, p2] [r, q] && ck D .E sc l a && ck D .E sc r b && ck D .E sc q c
    | (.T, .Compare l [p1, p2] [r, q] _) => cmpB o1 p1 && cmpB o2 p2 && !lastMarks [p1, p2] [r, q] && ck D .E sc l a && ck D .E sc r b && ck D .E sc q c
    | _ => false)
  | md, sc, e, .ife c a b => (match nrm md e with
    | (.E, .IfExp t l r _) => ck D .T sc t c && ck D .E sc l a && ck D .E sc r b
    | _ => false)
  | md, sc, e, .tup es => tOk (nrm md e) && (match (nrm md e).2 with
    | .Tuple ls _ _ => ckAs D sc ls es
    | _ => false)
  | md, sc, e, .lst es => ((nrm md e).1 == .F || tOk (nrm md e)) && (match (nrm md e).2 with
    | .List ls _ => ckAs D sc ls es
    | _ => false)
  | md, sc, e, .dic ks vs => tOk (nrm md e) && (match (nrm md e).2 with
    | .Dict keys ls _ => keysAre ks keys && decide ks.Nodup && decide (ks.length ≤ 15) && ckA D sc ls vs && decide (ls.length = ks.length) && (!ks.isEmpty || (ls.isEmpty && keys.isEmpty))
    | _ => false)
  | md, sc, e, .new x => tOk (nrm md e) && ck D .F sc (nrm md e).2 x
  | md, sc, e, .idx a i => tOk (nrm md e) && (match (nrm md e).2 with
    | .Subscript l r _ => notSlice r && ck D .E sc l a && ck D .E sc r i
    | _ => false)
  | md, sc, e, .slc a lo hi => tOk (nrm md e) && (match (nrm md e).2 with
    | .Subscript l (.Slice lo' hi' none _) _ => ck D .E sc l a && ckO D sc lo' lo && ckO D sc hi' hi
    | _ => false)
  | md, sc, e, .rev a => tOk (nrm md e) && (match (nrm md e).2 with
    | .Subscript l (.Slice none none (some (.UnaryOp .USub (.Constant (.int 1) _ _) _)) _) _ => ck D .E sc l a
    | _ => false)
  | md, sc, e, .call f es ks kes => tOk (nrm md e) && (match (nrm md e).2 with
    | .Call (.Name x _) ls kws _ => x == f && globB sc x && D.calls.any (fun p => p.1 == f && p.2.1 == ls.length && p.2.2 == ks) && kwIs ks kws && ckA D sc ls es && ckK D sc kws kes
    | _ => false)
  | md, sc, e, .bif f es => tOk (nrm md e) && (match (nrm md e).2 with
    | .Call (.Name x _) (l :: ls) [] _ => biB f x && globB sc x && D.bl.contains x && !(x == ("__name__" : Str)) && ckA D sc (l :: ls) es
    | .Call (.Attribute (.Name x _) nm ap) [l, .Constant c _ _] [] p => (match es with
      | .cons (.con (.tup ks)) (.cons (.con (.tup vs)) (.cons a (.cons (.con d) .nil))) => nm == ("get" : Str) && f == ("get" : Str) && globB sc x && ap.endLine == p.line && !isStar l && conB c d && ck D .E sc l a &&
        D.kd.any (fun q => q.1 == x && T.eqbL (q.2.1.map .str) ks && T.eqbL q.2.2 vs)
      | _ => false)
    | _ => false)
  | md, sc, e, .bty f es => (((nrm md e).1 == .F && f == "list") || tOk (nrm md e)) && (match (nrm md e).2 with
    | .Call (.Name x _) (l :: ls) [] _ => btB f x && globB sc x && D.bl.contains x && !(x == ("__name__" : Str)) && ckA D sc (l :: ls) es
    | _ => false)
  | md, sc, e, .mth o m es => tOk (nrm md e) && (match (nrm md e).2 with
    | .Call (.Attribute l nm ap) [] [] p => nm == m && m == "upper" && notCall l && ap.endLine == p.line && ck D .E sc l o && ckA D sc [] es
    | .Call (.Attribute l nm ap) (l1 :: ls) [] p => nm == m && mtB m && notCall l && ap.endLine == p.line && decide ((l1 :: ls).length < 30) && ck D .E sc l o && ckA D sc (l1 :: ls) es
    | _ => false)
  | md, sc, e, .comp own g it cs elt => ((nrm md e).1 == .F || tOk (nrm md e)) && (match (nrm md e).2 with
    | .ListComp l [⟨tg, iter, ifs, 0⟩] scope _ => ckI D sc (isTup tg) iter it && blkB D.N sc.toScope scope (ownOf D.N own) && ckG D (sc.blk scope) tg g && g.ix.all (own.contains ·) && ckC D (sc.blk scope) ifs cs && ck D .E (sc.blk scope) l elt && notSet iter
    | _ => false)
  | md, sc, e, .sset b a => tOk (nrm md e) && (match (nrm md e).2 with
    | .Call (.Name x _) [.Call (.Name y _) [l] [] _] [] _ => x == (if b then ("sorted" : Str) else ("len" : Str)) && y == ("set" : Str) && globB sc x && globB sc y && D.bl.contains x && D.bl.contains y && !isStar l && ck D .E sc l a
    | _ => false)
  | md, sc, e, .lzip a b => tOk (nrm md e) && (match (nrm md e).2 with
    | .Call (.Name x _) [.Call (.Name y _) [l, l2] [] _] [] _ => x == ("list" : Str) && y == ("zip" : Str) && globB sc x && globB sc y && D.bl.contains x && D.bl.contains y && !isStar l && !isStar l2 && ck D .E sc l a && ck D .E sc l2 b
    | _ => false)
  | md, sc, e, .ssc own g it cs own2 g2 it2 cs2 elt => tOk (nrm md e) && (match (nrm md e).2 with
    | .Call (.Name x _) [.SetComp l [⟨tg, iter, ifs, 0⟩, ⟨tg1, iter1, ifs1, 0⟩] scope _] [] _ => x == ("sorted" : Str) && globB sc x && D.bl.contains x && ckI D sc (isTup tg) iter it && blkB D.N sc.toScope scope (ownOf D.N own) && ckG D (sc.blk scope) tg g && g.ix.all (own.contains ·) &&
      ckC D (sc.blk scope) ifs cs && ckI D (sc.blk scope) (isTup tg1) iter1 it2 && ckG D (sc.blk scope) tg1 g2 && g2.ix.all (own2.contains ·) && own2.all (own.contains ·) && ckC D (sc.blk scope) ifs1 cs2 && ck D .E (sc.blk scope) l elt && notSet iter && notSet iter1
    | _ => false)
  | md, sc, e, .callS f a es => tOk (nrm md e) && (match (nrm md e).2 with
    | .Call (.Name x _) (l :: ls) [] _ => x == f && globB sc x && D.calls.any (fun p => p.1 == f && p.2.1 == a && p.2.2 == []) && !isStar l && ls.any isStar && ckAs D sc (l :: ls) es
    | _ => false)
  | md, sc, e, .cix f es x => tOk (nrm md e) && (match (nrm md e).2 with
    | .Call (.Attribute (.Call (.Name y _) (l :: ls) [] _) nm ap) [l2] [] p => nm == ("index" : Str) && y == f && globB sc y && D.pls.any (fun p => p.1 == f && p.2 == ls.length + 1) && ap.endLine == p.line && !isStar l2 && ckA D sc (l :: ls) es && ck D .E sc l2 x
    | _ => false)
def ckA (D : Dat) : Scp → List Expr → Exs → Bool
  | _, es, .nil => es.isEmpty
  | sc, es, .cons x xs => (match es with
    | e :: es => !isStar e && ck D .E sc e x && ckA D sc es xs
    | _ => false)
  | _, _, .star _ _ => false
/-- stars among them -/
def ckAs (D : Dat) : Scp → List Expr → Exs → Bool
  | _, es, .nil => es.isEmpty
  | sc, es, .cons x xs => (match es with
    | e :: es => !isStar e && ck D .E sc e x && ckAs D sc es xs
    | _ => false)
  | sc, es, .star x xs => (match es with
    | .Starred e _ :: es => ck D .E sc e x && ckAs D sc es xs
    | _ => false)
def ckK (D : Dat) : Scp → List Keyword → Exs → Bool
  | _, es, .nil => es.isEmpty
  | sc, es, .cons x xs => (match es with
    | ⟨_, e, _⟩ :: es => ck D .E sc e x && ckK D sc es xs
    | _ => false)
  | _, _, .star _ _ => false
def ckC (D : Dat) : Scp → List Expr → Exs → Bool
  | _, es, .nil => es.isEmpty
  | sc, es, .cons x xs => (match es, xs with
    | [e], .nil => ck D .T sc e x
    | _, _ => false)
  | _, _, .star _ _ => false
def ckO (D : Dat) : Scp → Option Expr → OEx → Bool
  | _, e, .none => e.isNone
  | sc, e, .some x => (match e with
    | some e => ck D .E sc e x
    | none => false)
def ckI (D : Dat) : Scp → Bool → Expr → It → Bool
  | sc, _, e, .plain x => ck D .E sc e x
  | sc, _, e, .range (.cons a .nil) => (match e with
    | .Call (.Name x _) [l] [] _ => x == "range" && globB sc x && D.bl.contains "range" && !isStar l && ck D .E sc l a
    | _ => false)
  | sc, _, e, .range (.cons a (.cons b .nil)) => (match e with
    | .Call (.Name x _) [l, r] [] _ => x == "range" && globB sc x && D.bl.contains "range" && !isStar l && !isStar r && ck D .E sc l a && ck D .E sc r b
    | _ => false)
  | sc, tt, e, .enum a => (match e with
    | .Call (.Name x _) [l] [] _ => tt && x == "enumerate" && globB sc x && D.bl.contains "enumerate" && !isStar l && ck D .E sc l a
    | _ => false)
  | sc, tt, e, .zip a b => (match e with
    | .Call (.Name x _) [l, r] [] _ => tt && x == "zip" && globB sc x && D.bl.contains "zip" && !isStar l && !isStar r && ck D .E sc l a && ck D .E sc r b
    | _ => false)
  | _, _, _, _ => false
end
end Px
end
section
set_option linter.all false
set_option maxRecDepth 100000
/-! Px14: what passes the look is reckoned soundly. -/
namespace Px
open PySem PySem.Spec PyProof.Rows L2
section
variable {B : Base} {k : Nat} {N : List Str} {sc : Scp} {e : Expr} {es : List Expr} {pos : Pos}
theorem IE.eq {m m' : Env → Sto → R T} (h : IE B k N sc e m) (q : ∀ ρ S, m ρ S = m' ρ S) : IE B k N sc e m' := by
  have : m = m' := funext fun ρ => funext fun S => q ρ S
  rwa [this] at h
theorem IT.eq {m m' : Env → Sto → R Bool} (h : IT B k N sc e m) (q : ∀ ρ S, m ρ S = m' ρ S) : IT B k N sc e m' := by
  have : m = m' := funext fun ρ => funext fun S => q ρ S
  rwa [this] at h
theorem IW.eq {m m' : Env → Sto → R Bool} (h : IW B k N sc e m) (q : ∀ ρ S, m ρ S = m' ρ S) : IW B k N sc e m' := by
  have : m = m' := funext fun ρ => funext fun S => q ρ S
  rwa [this] at h
theorem IF.eq {m m' : Env → Sto → R (List T)} (h : IF B k N sc e m) (q : ∀ ρ S, m ρ S = m' ρ S) : IF B k N sc e m' := by
  have : m = m' := funext fun ρ => funext fun S => q ρ S
  rwa [this] at h
theorem ITs.eq {m m' : Env → Sto → R Bool} (h : ITs B k N sc es m) (q : ∀ ρ S, m ρ S = m' ρ S) : ITs B k N sc es m' := by
  have : m = m' := funext fun ρ => funext fun S => q ρ S
  rwa [this] at h
theorem II.eq {tg it : Expr} {m m' : Env → Sto → R (List T × Option Nat)} (h : II B k N sc tg it m) (q : ∀ ρ S, m ρ S = m' ρ S) : II B k N sc tg it m' := by
  have : m = m' := funext fun ρ => funext fun S => q ρ S
  rwa [this] at h
/-- a test a < b < c -/
theorem it_cmp2 {a b c : Expr} {ma mb mc : Env → Sto → R T} {op op' : CmpOp} {f f' : T → T → Option Bool} (ha : IE B k N sc a ma) (hb : IE B k N sc b mb) (hc : IE B k N sc c mc) (ho : CmpI B k N sc (compareOp op) f) (ho' : CmpI B k N sc (compareOp op') f')
    (hm : lastMarks [op, op'] [b, c] = false) :
    IT B k N sc (.Compare a [op, op'] [b, c] pos) (fun ρ S => (ma ρ S).bind fun x S => (mb ρ S).bind fun y S => (R.opt (f (vw S x) (vw S y)) S).bind fun k S =>
      if k then (mc ρ S).bind fun z S => R.opt (f' (vw S y) (vw S z)) S else .ok false S) := fun X s => by
  obtain ⟨r, h1, h2⟩ := ho X s
  obtain ⟨r', h1', h2'⟩ := ho' X s
  refine PT.imp (pt_chain h1 h1' (ha X s) (hb X s) (hc X s) hm) fun σ H Q ⟨φ, ρ, S, hS, hE, hp⟩ => ?_
  refine ⟨φ, ρ, S, hS, hE, hp.bind fun t S1 φ1 H1 v _ e1 hS1 rv hp1 => ?_⟩
  refine ⟨φ1, ρ, S1, hS1, hE.ext e1, hp1.bind fun t2 S2 φ2 H2 v2 _ e2 hS2 rv2 hp2 => ?_⟩
  refine h2 φ2 S2 H2 v v2 t t2 _ hS2 (rv.ext e2) rv2 (hp2.bind fun c S3 φ3 H3 w _ e3 hS3 rw3 hp3 => ?_)
  refine ⟨c, rw3, ?_⟩
  cases c with
  | false => exact ⟨false, rfl, Post.ok (rep := same) hp3 hS3 rfl⟩
  | true =>
    refine ⟨φ3, ρ, S3, hS3, hE.ext (e1.trans (e2.trans e3)), hp3.bind fun t4 S4 φ4 H4 v4 _ e4 hS4 rv4 hp4 => ?_⟩
    refine h2' φ4 S4 H4 v2 v4 t2 t4 _ hS4 ((rv2.ext e3).ext e4) rv4 ?_
    cases e5 : f' (vw S4 t2) (vw S4 t4) with
    | none => rw [e5] at hp4; exact hp4.elim
    | some c =>
      rw [e5] at hp4
      exact fun φ' H' w x r q => ⟨c, q, hp4 φ' H' c x r rfl⟩

def Good (B : Base) (k : Nat) (N : List Str) : Md → Scp → Expr → (Env → Sto → R T) → Prop
  | .E, sc, e, m => IE B k N sc e m
  | .T, sc, e, m => IT B k N sc e (fun ρ S => (m ρ S).bind truR)
  | .W, sc, e, m => IW B k N sc e (fun ρ S => (m ρ S).bind truR)
  | .F, sc, e, m => IF B k N sc e (fun ρ S => (m ρ S).bind fun v S => match v with | .vl xs => .ok xs S | _ => .bad)
theorem good_nrm {md : Md} {m : Env → Sto → R T} (h : Good B k N (nrm md e).1 sc (nrm md e).2 m) : Good B k N md sc e m := by
  unfold nrm at h
  split at h
  · rename_i op a p
    cases op with
    | And => exact iw_and1 h
    | Or => exact iw_or1 h
  · exact ie_and1 h
  · exact h
theorem good_ie {p : Md × Expr} {m : Env → Sto → R T} (ht : tOk p = true) (h : IE B k N sc p.2 m) : Good B k N p.1 sc p.2 m := by
  obtain ⟨md, e⟩ := p
  cases md with
  | E => exact h
  | T =>
    show IT B k N sc e _
    cases e with
    | UnaryOp op a p =>
      cases op with
      | Not => cases ht
      | _ => exact it_tru h fun env whole => by first | rfl | (unfold isTrue; rfl) | simp [isTrue]
    | BoolOp _ _ _ => cases ht
    | IfExp _ _ _ _ => cases ht
    | Compare _ _ _ _ => cases ht
    | _ => exact it_tru h fun env whole => by first | rfl | (unfold isTrue; rfl) | simp [isTrue]
  | W => cases ht
  | F => cases ht
theorem Good.eq {md : Md} {m m' : Env → Sto → R T} (h : Good B k N md sc e m) (q : ∀ ρ S, m ρ S = m' ρ S) : Good B k N md sc e m' := by
  have : m = m' := funext fun ρ => funext fun S => q ρ S
  rwa [this] at h
end

noncomputable def cf (tab : Str → Option Fn) (W k : Nat) : Cfg := ⟨callN tab W k, W⟩
def Exs.len : Exs → Nat
  | .nil => 0
  | .cons _ es => es.len + 1
  | .star _ es => es.len
/-- no star among them -/
def Exs.even : Exs → Bool
  | .nil => true
  | .cons _ es => es.even
  | .star _ _ => false
theorem evs_len {C : Cfg} : ∀ {es : Exs} {ρ : Env} {S S' : Sto} {ts : List T}, es.even = true → evs C es ρ S = .ok ts S' → ts.length = es.len
  | .nil, ρ, S, S', ts, _, h => by unfold evs at h; cases h; rfl
  | .star _ _, ρ, S, S', ts, h0, h => by cases h0
  | .cons e es, ρ, S, S', ts, h0, h => by
    unfold evs at h
    cases h1 : ev C e ρ S with
    | bad => rw [h1] at h; cases h
    | exc => rw [h1] at h; cases h
    | ok a S1 =>
      rw [h1] at h
      simp only [R.bind_ok] at h
      cases h2 : evs C es ρ S1 with
      | bad => rw [h2] at h; cases h
      | exc => rw [h2] at h; cases h
      | ok b S2 =>
        rw [h2] at h
        simp only [R.bind_ok] at h
        cases h
        rw [List.length_cons, evs_len (show es.even = true from h0) h2, Exs.len]
theorem ckA_len {D : Dat} : ∀ {xs : Exs} {sc : Scp} {es : List Expr}, ckA D sc es xs = true → es.length = xs.len ∧ es.any isStar = false ∧ xs.even = true
  | .nil, sc, es, h => by unfold ckA at h; cases es <;> first | exact ⟨rfl, rfl, rfl⟩ | cases h
  | .star _ _, sc, es, h => by unfold ckA at h; cases h
  | .cons x xs, sc, es, h => by
    unfold ckA at h
    cases es with
    | nil => cases h
    | cons e es =>
      simp only [Bool.and_eq_true, Bool.not_eq_true'] at h
      obtain ⟨a, b, c⟩ := ckA_len h.2
      exact ⟨by rw [List.length_cons, a, Exs.len], by rw [List.any_cons, h.1.1, b]; rfl, c⟩
theorem ckK_len {D : Dat} : ∀ {xs : Exs} {sc : Scp} {es : List Keyword}, ckK D sc es xs = true → es.length = xs.len ∧ xs.even = true
  | .nil, sc, es, h => by unfold ckK at h; cases es <;> first | exact ⟨rfl, rfl⟩ | cases h
  | .star _ _, sc, es, h => by unfold ckK at h; cases h
  | .cons x xs, sc, es, h => by
    unfold ckK at h
    cases es with
    | nil => cases h
    | cons e es =>
      obtain ⟨_, e1, _⟩ := e
      have h' : (ck D .E sc e1 x && ckK D sc es xs) = true := h
      rw [Bool.and_eq_true] at h'
      exact ⟨by rw [List.length_cons, (ckK_len h'.2).1, Exs.len], (ckK_len h'.2).2⟩
theorem kwIs_len : ∀ {ks : List Str} {kws : List Keyword}, kwIs ks kws = true → kws.length = ks.length
  | [], [], _ => rfl
  | x :: xs, ⟨some y, _, _⟩ :: ks, h => by
    rw [kwIs, Bool.and_eq_true] at h
    rw [List.length_cons, List.length_cons, kwIs_len h.2]
  | [], _ :: _, h => by cases h
  | _ :: _, [], h => by cases h
  | _ :: _, ⟨none, _, _⟩ :: _, h => by cases h

section
variable {B : Base} {k : Nat} {N : List Str} {sc : Scp} {e : Expr} {es : List Expr} {pos : Pos}
theorem vis_of {x : Str} (h : visB sc x = true) : Vis sc.toScope x := by
  simp only [visB, Bool.or_eq_true, beq_iff_eq] at h
  rcases h with (h | h) | h
  · exact .inl h
  · exact .inr (.inl h)
  · exact .inr (.inr h)
theorem glob_of {x : Str} (h : globB sc x = true) : sc.names.lookup x = some .globalImplicit ∧ (x == ("__debug__" : Str)) = false := by
  simpa only [globB, Bool.and_eq_true, beq_iff_eq, Bool.not_eq_true'] using h
theorem igs_of : ∀ {es : List Expr} {is : List Nat}, igsB N sc es is = true → IGs N sc es is
  | [], [], _ => trivial
  | .Name x _ :: es, i :: is, h => by
    simp only [igsB, Bool.and_eq_true, beq_iff_eq] at h
    exact ⟨h.1.1, h.1.2, igs_of h.2⟩
  | [], _ :: _, h => by simp [igsB] at h
  | e :: _, [], h => by cases e <;> simp [igsB] at h
  | e :: _, _ :: _, h => by cases e <;> first | (simp [igsB] at h; done) | (rename_i x p _ _; simp only [igsB, Bool.and_eq_true, beq_iff_eq] at h; exact ⟨h.1.1, h.1.2, igs_of h.2⟩)
theorem ig_of {D : Dat} {tg : Expr} {g : Tg} (h : ckG D sc tg g = true) : IG B k D.N sc tg g := by
  unfold ckG at h
  split at h
  · simp only [Bool.and_eq_true, beq_iff_eq] at h
    exact ig_nm h.1 h.2
  · exact ig_tps (igs_of h)
  · cases h
theorem con_of {c : Const} {t : T} {j : Nat} {C : Cfg} (h : conB c t = true) : IE B k N sc (.Constant c j pos) (ev C (.con t)) := by
  unfold conB at h
  split at h
  · rw [beq_iff_eq] at h; subst h; exact ie_int.eq fun ρ S => by unfold ev; rfl
  · rw [beq_iff_eq] at h; subst h; exact ie_bl.eq fun ρ S => by unfold ev; rfl
  · exact ie_non.eq fun ρ S => by unfold ev; rfl
  · rw [beq_iff_eq] at h; subst h; exact ie_str.eq fun ρ S => by unfold ev; rfl
  · cases h
theorem name_of {D : Dat} {tab : Str → Option Fn} {W : Nat} {x : Str} {t : T} {C : Cfg} (K : Kn B tab W k D) (hg : globB sc x = true) (h : nameCon D x t = true) : IE B k N sc (.Name x pos) (ev C (.con t)) := by
  obtain ⟨h1, h2⟩ := glob_of hg
  have key : (D.con.any fun p => p.1 == x && T.eqb p.2 t) = true → IE B k N sc (.Name x pos) (ev C (.con t)) := fun h => by
    rw [List.any_eq_true] at h
    obtain ⟨p, hp, h⟩ := h
    rw [Bool.and_eq_true, beq_iff_eq] at h
    obtain ⟨rfl, hq⟩ := h
    have := T.eqb_eq hq
    subst this
    obtain ⟨u, v, a, b, c⟩ := K.con p hp
    exact (ie_glob h1 a b (fun φ H => c _ φ H) h2).eq fun ρ S => by unfold ev; rfl
  unfold nameCon at h
  split at h
  · simp only [Bool.and_eq_true, Bool.or_eq_true, beq_iff_eq, Bool.not_eq_true', beq_eq_false_iff_ne] at h
    obtain ⟨⟨hb, hn⟩, h⟩ := h
    have hm := K.bl x (by simpa using hb)
    rcases h with ((((⟨rfl, rfl⟩ | ⟨rfl, rfl⟩) | ⟨rfl, rfl⟩) | ⟨rfl, rfl⟩) | ⟨rfl, rfl⟩) | ⟨rfl, rfl⟩ <;> exact (ie_blt h1 hm (by kernel_rfl) hn h2).eq fun ρ S => by unfold ev; rfl
  · exact key h
theorem bin_of {op : BOp} {o : Operator} (h : opB op o = true) : BinI B k N sc (binaryOp o) (binT op) := by
  unfold opB at h
  split at h
  · exact bin_add
  · exact bin_sub
  · exact bin_mul
  · exact bin_fdiv
  · exact bin_mod
  · exact bin_pow
  · cases h
theorem cmp_of {op : COp} {o : CmpOp} (h : cmpB op o = true) : CmpI B k N sc (compareOp o) (cmpT op) := by
  unfold cmpB at h
  split at h
  · exact cmp_eq
  · exact cmp_ne
  · exact cmp_lt
  · exact cmp_le
  · exact cmp_gt
  · exact cmp_ge
  · exact cmp_in
  · exact cmp_nin
  · exact cmp_is
  · exact cmp_isn
  · cases h
theorem ix_of {b : Expr} (h : notSlice b = true) : PlainIx b := by
  intro o i
  cases b <;> first | (cases h; done) | rfl
theorem call_of {l : Expr} (h : notCall l = true) : ∀ f as ks p, l ≠ .Call f as ks p := by
  rintro f as ks p rfl
  cases h
theorem set_of {l : Expr} (h : notSet l = true) : ∀ env x, foldedSetIterable l env x = pure x := by
  intro env x
  cases l <;> first | (cases h; done) | rfl
theorem catT (a b : T) : ((binT .add a b).bind fun t => match t with | .vl xs => some xs | _ => none) = match a, b with | .vl xs, .vl ys => gd (decide (xs.length + ys.length ≤ lim)) (xs ++ ys) | _, _ => none := by
  cases a <;> cases b <;> simp only [binT] <;> first | rfl | (unfold gd; split <;> rfl)
theorem opt_bind {α β : Type} {o : Option α} {S : Sto} {f : α → Sto → R β} : (R.opt o S).bind f = match o with | some a => f a S | none => .bad := by
  cases o <;> rfl
theorem truR_bl {c : Bool} {S : Sto} : truR (.bl c) S = .ok c S := rfl
theorem R.bind_id {α : Type} (r : R α) : (r.bind fun a S => .ok a S) = r := by cases r <;> rfl
theorem own_snd {N : List Str} {own : List Nat} : (ownOf N own).map (·.2) = own := by
  unfold ownOf
  rw [List.map_map]
  exact List.map_id _
end
end Px
end
section
set_option linter.all false
set_option maxRecDepth 100000
set_option maxHeartbeats 2000000
/-! Px15: what passes the look is reckoned soundly: the induction. -/
namespace Px
open PySem PySem.Spec PyProof.Rows L2
theorem and_truR {x : T} {S : Sto} {m : Sto → R T} : ((truR x S).bind fun k S => if k then m S else .ok x S).bind truR = (truR x S).bind fun k S => if k then (m S).bind truR else .ok false S := by
  unfold truR
  cases h : tru (vw S x) with
  | none => rfl
  | some c => cases c <;> simp [R.opt, h]
theorem or_truR {x : T} {S : Sto} {m : Sto → R T} : ((truR x S).bind fun k S => if k then .ok x S else m S).bind truR = (truR x S).bind fun k S => if k then .ok true S else (m S).bind truR := by
  unfold truR
  cases h : tru (vw S x) with
  | none => rfl
  | some c => cases c <;> simp [R.opt, h]
theorem bind_congr {α β : Type} {r : R α} {f g : α → Sto → R β} (h : ∀ a S, f a S = g a S) : r.bind f = r.bind g := by
  have : f = g := funext fun a => funext fun S => h a S
  rw [this]
theorem ckA_nil {D : Dat} {sc : Scp} {xs : Exs} (h : ckA D sc [] xs = true) : xs = .nil := by
  cases xs with
  | nil => rfl
  | cons => unfold ckA at h; cases h
  | star => unfold ckA at h; cases h
theorem ckK_nil {D : Dat} {sc : Scp} {xs : Exs} (h : ckK D sc [] xs = true) : xs = .nil := by
  cases xs with
  | nil => rfl
  | cons => unfold ckK at h; cases h
  | star => unfold ckK at h; cases h
theorem evs_nil {C : Cfg} {ρ : Env} {S : Sto} : evs C .nil ρ S = .ok [] S := by unfold evs; rfl

mutual
theorem sn {D : Dat} {tab : Str → Option Fn} {W : Nat} : ∀ (x : Ex) {B : Base} {k : Nat} {md : Md} {sc : Scp} {e : Expr}, Kn B tab W k D → ck D md sc e x = true → Good B k D.N md sc e (ev (cf tab W k) x)
  | .loc i, B, k, md, sc, e, K, h => by
    refine good_nrm ?_
    unfold ck at h
    generalize nrm md e = p at h ⊢
    rw [Bool.and_eq_true] at h
    refine good_ie h.1 ?_
    have h := h.2
    split at h
    · rename_i x pos he
      simp only [Bool.and_eq_true, beq_iff_eq, Bool.not_eq_true'] at h
      rw [he]
      exact (ie_loc h.1.1.1 (vis_of h.1.1.2) h.1.2 h.2).eq fun ρ S => by unfold ev; rfl
    · cases h
  | .con t, B, k, md, sc, e, K, h => by
    refine good_nrm ?_
    unfold ck at h
    generalize nrm md e = p at h ⊢
    rw [Bool.and_eq_true] at h
    refine good_ie h.1 ?_
    have h := h.2
    split at h
    · rename_i c j pos he
      rw [he]
      exact con_of h
    · rename_i x pos he
      rw [Bool.and_eq_true] at h
      rw [he]
      exact name_of K h.1 h.2
    · cases h
  | .bin op a b, B, k, md, sc, e, K, h => by
    unfold ck at h
    split at h
    · rename_i l r pos
      cases op with
      | add =>
        simp only [Bool.true_and, Bool.and_eq_true] at h
        have ha := sn a (md := .E) K h.1
        have hb := sn b (md := .E) K h.2
        refine IF.eq (if_cat ha hb) fun ρ S => ?_
        conv => rhs; unfold ev
        rw [R.bind_assoc]
        refine bind_congr fun x S1 => ?_
        rw [R.bind_assoc]
        refine bind_congr fun y S2 => ?_
        have q := catT (vw S2 x) (vw S2 y)
        cases hx : binT .add (vw S2 x) (vw S2 y) with
        | none =>
          rw [hx] at q
          simp only [R.opt_none, R.bind_bad]
          cases ea : vw S2 x <;> cases eb : vw S2 y <;> rw [ea, eb] at q <;> first | rfl | (simp only [Option.bind_none] at q; show R.opt (gd _ _) S2 = _; rw [← q]; rfl)
        | some t =>
          rw [hx] at q
          simp only [R.opt_some, R.bind_ok]
          simp only [Option.bind_some] at q
          cases ea : vw S2 x <;> cases eb : vw S2 y <;> rw [ea, eb] at q <;> first
            | (cases t <;> first | rfl | (simp only at q; cases q; done))
            | (simp only at q; show R.opt (gd _ _) S2 = _; rw [← q]; cases t <;> rfl)
      | _ => cases h
    · refine good_nrm ?_
      generalize nrm md e = p at h ⊢
      rw [Bool.and_eq_true] at h
      refine good_ie h.1 ?_
      have h := h.2
      split at h
      · rename_i l o r pos he
        simp only [Bool.and_eq_true] at h
        rw [he]
        exact (ie_bin (sn a (md := .E) K h.1.2) (sn b (md := .E) K h.2) (bin_of h.1.1)).eq fun ρ S => by conv => rhs; unfold ev
      · cases h
  | .neg a, B, k, md, sc, e, K, h => by
    refine good_nrm ?_
    unfold ck at h
    generalize nrm md e = p at h ⊢
    rw [Bool.and_eq_true] at h
    refine good_ie h.1 ?_
    have h := h.2
    split at h
    · rename_i l pos he
      rw [he]
      exact (ie_neg (sn a (md := .E) K h)).eq fun ρ S => by conv => rhs; unfold ev
    · cases h
  | .not a, B, k, md, sc, e, K, h => by
    refine good_nrm ?_
    unfold ck at h
    generalize nrm md e = p at h ⊢
    split at h
    · exact (ie_not (sn a (md := .E) K h)).eq fun ρ S => by conv => rhs; unfold ev
    · refine (it_not (sn a (md := .T) K h)).eq fun ρ S => ?_
      conv => rhs; unfold ev
      rw [R.bind_assoc, R.bind_assoc]
      refine bind_congr fun x S1 => ?_
      rw [R.bind_assoc]
      exact bind_congr fun c S2 => rfl
    · cases h
  | .and a b, B, k, md, sc, e, K, h => by
    refine good_nrm ?_
    unfold ck at h
    generalize nrm md e = p at h ⊢
    split at h
    · rw [Bool.and_eq_true] at h
      exact (ie_and (sn a (md := .E) K h.1) (sn b (md := .E) K h.2)).eq fun ρ S => by conv => rhs; unfold ev
    · rw [Bool.and_eq_true] at h
      refine (iw_and (sn a (md := .T) K h.1) (sn b (md := .W) K h.2)).it.eq fun ρ S => ?_
      conv => rhs; unfold ev
      rw [R.bind_assoc, R.bind_assoc]
      exact bind_congr fun x S1 => (and_truR (m := fun S => ev (cf tab W k) b ρ S)).symm
    · rw [Bool.and_eq_true] at h
      refine (iw_and (sn a (md := .T) K h.1) (sn b (md := .W) K h.2)).eq fun ρ S => ?_
      conv => rhs; unfold ev
      rw [R.bind_assoc, R.bind_assoc]
      exact bind_congr fun x S1 => (and_truR (m := fun S => ev (cf tab W k) b ρ S)).symm
    · cases h
  | .or a b, B, k, md, sc, e, K, h => by
    refine good_nrm ?_
    unfold ck at h
    generalize nrm md e = p at h ⊢
    split at h
    · rw [Bool.and_eq_true] at h
      exact (ie_or (sn a (md := .E) K h.1) (sn b (md := .E) K h.2)).eq fun ρ S => by conv => rhs; unfold ev
    · rw [Bool.and_eq_true] at h
      refine (iw_or (sn a (md := .T) K h.1) (sn b (md := .W) K h.2)).it.eq fun ρ S => ?_
      conv => rhs; unfold ev
      rw [R.bind_assoc, R.bind_assoc]
      exact bind_congr fun x S1 => (or_truR (m := fun S => ev (cf tab W k) b ρ S)).symm
    · rw [Bool.and_eq_true] at h
      refine (iw_or (sn a (md := .T) K h.1) (sn b (md := .W) K h.2)).eq fun ρ S => ?_
      conv => rhs; unfold ev
      rw [R.bind_assoc, R.bind_assoc]
      exact bind_congr fun x S1 => (or_truR (m := fun S => ev (cf tab W k) b ρ S)).symm
    · cases h
  | .cmp op a b, B, k, md, sc, e, K, h => by
    refine good_nrm ?_
    unfold ck at h
    generalize nrm md e = p at h ⊢
    split at h
    · simp only [Bool.and_eq_true, Bool.not_eq_true'] at h
      exact (ie_cmp (sn a (md := .E) K h.1.2) (sn b (md := .E) K h.2) (cmp_of h.1.1.1) h.1.1.2).eq fun ρ S => by conv => rhs; unfold ev
    · simp only [Bool.and_eq_true, Bool.not_eq_true'] at h
      refine (it_cmp (sn a (md := .E) K h.1.2) (sn b (md := .E) K h.2) (cmp_of h.1.1.1) h.1.1.2).eq fun ρ S => ?_
      conv => rhs; unfold ev
      rw [R.bind_assoc]
      refine bind_congr fun x S1 => ?_
      rw [R.bind_assoc]
      refine bind_congr fun y S2 => ?_
      rw [R.bind_assoc]
      exact (R.bind_id _).symm
    · cases h
  | .cmp2 o1 o2 a b c, B, k, md, sc, e, K, h => by
    refine good_nrm ?_
    unfold ck at h
    generalize nrm md e = p at h ⊢
    split at h
    · simp only [Bool.and_eq_true, Bool.not_eq_true'] at h
      exact (ie_cmp2 (sn a (md := .E) K h.1.1.2) (sn b (md := .E) K h.1.2) (sn c (md := .E) K h.2) (cmp_of h.1.1.1.1.1) (cmp_of h.1.1.1.1.2) h.1.1.1.2).eq fun ρ S => by conv => rhs; unfold ev
    · simp only [Bool.and_eq_true, Bool.not_eq_true'] at h
      refine (it_cmp2 (sn a (md := .E) K h.1.1.2) (sn b (md := .E) K h.1.2) (sn c (md := .E) K h.2) (cmp_of h.1.1.1.1.1) (cmp_of h.1.1.1.1.2) h.1.1.1.2).eq fun ρ S => ?_
      conv => rhs; unfold ev
      rw [R.bind_assoc]
      refine bind_congr fun x S1 => ?_
      rw [R.bind_assoc]
      refine bind_congr fun y S2 => ?_
      rw [R.bind_assoc]
      refine bind_congr fun c1 S3 => ?_
      cases c1 with
      | false => rfl
      | true =>
        simp only [if_true]
        rw [R.bind_assoc]
        refine bind_congr fun z S4 => ?_
        rw [R.bind_assoc]
        exact (R.bind_id _).symm
    · cases h
  | .ife c a b, B, k, md, sc, e, K, h => by
    refine good_nrm ?_
    unfold ck at h
    generalize nrm md e = p at h ⊢
    split at h
    · simp only [Bool.and_eq_true] at h
      refine (ie_ife (sn c (md := .T) K h.1.1) (sn a (md := .E) K h.1.2) (sn b (md := .E) K h.2)).eq fun ρ S => ?_
      conv => rhs; unfold ev
      rw [R.bind_assoc]
    · cases h
  | .tup es, B, k, md, sc, e, K, h => by
    refine good_nrm ?_
    unfold ck at h
    generalize nrm md e = p at h ⊢
    rw [Bool.and_eq_true] at h
    refine good_ie h.1 ?_
    have h := h.2
    split at h
    · rename_i ls j pos he
      rw [he]
      exact (ie_tup (snAs es K h)).eq fun ρ S => by conv => rhs; unfold ev
    · cases h
  | .lst es, B, k, md, sc, e, K, h => by
    refine good_nrm ?_
    unfold ck at h
    generalize nrm md e = p at h ⊢
    obtain ⟨md, e⟩ := p
    rw [Bool.and_eq_true] at h
    obtain ⟨h0, h⟩ := h
    split at h
    · rename_i ls pos he
      have he : e = _ := he
      subst he
      have hF := if_lst (pos := pos) (snAs es K h)
      have key : ∀ ρ S, ev (cf tab W k) (.lst es) ρ S = ((evs (cf tab W k) es ρ S).bind fun xs S => R.opt (gd (decide (xs.length ≤ lim)) xs) S).bind fun xs S => .ok (.vl xs) S := fun ρ S => by
        conv => lhs; unfold ev
        rw [R.bind_assoc]
        refine bind_congr fun x S1 => ?_
        unfold gd
        split <;> rfl
      rw [Bool.or_eq_true, beq_iff_eq] at h0
      rcases h0 with h0 | h0
      · have h0 : md = _ := h0
        subst h0
        refine hF.eq fun ρ S => ?_
        rw [key, R.bind_assoc]
        exact (R.bind_id _).symm
      · exact good_ie h0 (hF.ie.eq fun ρ S => (key ρ S).symm)
    · cases h
  | .dic ks vs, B, k, md, sc, e, K, h => by
    refine good_nrm ?_
    unfold ck at h
    generalize nrm md e = p at h ⊢
    rw [Bool.and_eq_true] at h
    refine good_ie h.1 ?_
    have h := h.2
    split at h
    · rename_i keys ls pos he
      rw [he]
      simp only [Bool.and_eq_true, decide_eq_true_eq, Bool.or_eq_true, Bool.not_eq_true'] at h
      obtain ⟨⟨⟨⟨⟨h1, h2⟩, h3⟩, h4⟩, hl⟩, h5⟩ := h
      cases ks with
      | nil =>
        rcases h5 with h5 | ⟨h5, h6⟩
        · simp at h5
        · have e1 : ls = [] := by simpa using h5
          have e2 : keys = [] := by simpa using h6
          subst e1 e2
          have := ckA_nil h4
          subst this
          exact ie_dic0.eq fun ρ S => by
            conv => rhs; unfold ev evs
            rfl
      | cons x ks =>
        exact (ie_dic (snD vs K h4 hl) h1 (by simp) h2 h3).eq fun ρ S => by conv => rhs; unfold ev
    · cases h
  | .new x, B, k, md, sc, e, K, h => by
    refine good_nrm ?_
    unfold ck at h
    generalize nrm md e = p at h ⊢
    rw [Bool.and_eq_true] at h
    refine good_ie h.1 ?_
    have hF : IF B k D.N sc p.2 _ := sn x (md := .F) K h.2
    refine hF.new.eq fun ρ S => ?_
    conv => rhs; unfold ev
    rw [R.bind_assoc]
    refine bind_congr fun v S1 => ?_
    cases v <;> rfl
  | .idx a i, B, k, md, sc, e, K, h => by
    refine good_nrm ?_
    unfold ck at h
    generalize nrm md e = p at h ⊢
    rw [Bool.and_eq_true] at h
    refine good_ie h.1 ?_
    have h := h.2
    split at h
    · rename_i l r pos he
      simp only [Bool.and_eq_true] at h
      rw [he]
      exact (ie_idx (sn a (md := .E) K h.1.2) (sn i (md := .E) K h.2) (ix_of h.1.1)).eq fun ρ S => by conv => rhs; unfold ev
    · cases h
  | .slc a lo hi, B, k, md, sc, e, K, h => by
    refine good_nrm ?_
    unfold ck at h
    generalize nrm md e = p at h ⊢
    rw [Bool.and_eq_true] at h
    refine good_ie h.1 ?_
    have h := h.2
    split at h
    · rename_i l lo' hi' p2 pos he
      simp only [Bool.and_eq_true] at h
      rw [he]
      exact (ie_slc (sn a (md := .E) K h.1.1) (snO lo K h.1.2) (snO hi K h.2)).eq fun ρ S => by conv => rhs; unfold ev
    · cases h
  | .rev a, B, k, md, sc, e, K, h => by
    refine good_nrm ?_
    unfold ck at h
    generalize nrm md e = p at h ⊢
    rw [Bool.and_eq_true] at h
    refine good_ie h.1 ?_
    have h := h.2
    split at h
    · rename_i l j p1 p2 p3 pos he
      rw [he]
      exact (ie_rev (sn a (md := .E) K h)).eq fun ρ S => by conv => rhs; unfold ev
    · cases h
  | .call f es ks kes, B, k, md, sc, e, K, h => by
    refine good_nrm ?_
    unfold ck at h
    generalize nrm md e = p at h ⊢
    rw [Bool.and_eq_true] at h
    refine good_ie h.1 ?_
    have h := h.2
    split at h
    · rename_i x pn ls kws pos he
      simp only [Bool.and_eq_true, beq_iff_eq, List.any_eq_true] at h
      obtain ⟨⟨⟨⟨⟨rfl, hg⟩, ⟨q, hq, ⟨q1, q2⟩, q3⟩⟩, hk⟩, ha⟩, hkk⟩ := h
      rw [he]
      obtain ⟨g1, g2⟩ := glob_of hg
      obtain ⟨fn, fa, fd, F, ht, hb⟩ := K.own q hq
      rw [q1] at F ht
      rw [q2, q3] at hb
      obtain ⟨l1, l2, l5⟩ := ckA_len ha
      obtain ⟨l3, l6⟩ := ckK_len hkk
      have l4 := kwIs_len hk
      refine (ie_call g1 g2 F ht hb l2 hk (snA es K ha) (snK kes K hkk) (fun ρ S ts S' h => by rw [evs_len l5 h, l1]) (fun ρ S ts S' h => by rw [evs_len l6 h, ← l3, l4]) (fun e ρ S => ?_) (fun e ρ S => ?_)).eq fun ρ S => by
        conv => rhs; unfold ev
        rfl
      · subst e; rw [ckA_nil ha]; exact evs_nil
      · subst e; rw [ckK_nil hkk]; exact evs_nil
    · cases h
  | .bif f es, B, k, md, sc, e, K, h => by
    refine good_nrm ?_
    unfold ck at h
    generalize nrm md e = p at h ⊢
    rw [Bool.and_eq_true] at h
    refine good_ie h.1 ?_
    have h := h.2
    split at h
    · rename_i x pn l ls pos he
      simp only [Bool.and_eq_true, beq_iff_eq, Bool.not_eq_true', beq_eq_false_iff_ne] at h
      obtain ⟨⟨⟨⟨hb, hg⟩, hm⟩, hn⟩, ha⟩ := h
      rw [he]
      obtain ⟨g1, g2⟩ := glob_of hg
      have l2 := (ckA_len ha).2.1
      have hm := K.bl x (by simpa using hm)
      simp only [biB, Bool.and_eq_true, beq_iff_eq, Bool.or_eq_true] at hb
      obtain ⟨rfl, hb⟩ := hb
      have ha := snA es K ha
      refine IE.eq (m := fun ρ S => (evs (cf tab W k) es ρ S).bind fun xs S => R.opt (bifT x (xs.map (vw S))) S) ?_ fun ρ S => by conv => rhs; unfold ev
      rcases hb with ((((((rfl | rfl) | rfl) | rfl) | rfl) | rfl) | rfl) | rfl
      · exact ie_bif call_lenI g1 hm (by kernel_rfl) hn g2 l2 ha
      · exact ie_bif call_allI g1 hm (by kernel_rfl) hn g2 l2 ha
      · exact ie_bif call_anyI g1 hm (by kernel_rfl) hn g2 l2 ha
      · exact ie_bif call_absI g1 hm (by kernel_rfl) hn g2 l2 ha
      · exact ie_bif call_maxI g1 hm (by kernel_rfl) hn g2 l2 ha
      · exact ie_bif call_minI g1 hm (by kernel_rfl) hn g2 l2 ha
      · exact ie_bif call_isiI g1 hm (by kernel_rfl) hn g2 l2 ha
      · exact ie_bif call_reprI g1 hm (by kernel_rfl) hn g2 l2 ha
    · rename_i x px nm ap l c cj cp pos he
      rw [he]
      split at h
      · rename_i ks vs a d _
        simp only [Bool.and_eq_true, beq_iff_eq, Bool.not_eq_true', List.any_eq_true] at h
        obtain ⟨⟨⟨⟨⟨⟨⟨rfl, rfl⟩, hg⟩, hl⟩, hs⟩, hc⟩, ha⟩, q, hq, ⟨hx, hk⟩, hv⟩ := h
        obtain ⟨g1, g2⟩ := glob_of hg
        subst hx
        have e1 := T.eqbL_eq hk
        have e2 := T.eqbL_eq hv
        subst e1 e2
        have hcon : IE B k D.N sc (.Constant c cj cp) (fun _ S => .ok d S) := (con_of (C := cf tab W k) hc).eq fun ρ S => by unfold ev; rfl
        have hd : ∀ S, vw S d = d := by
          intro S
          unfold conB at hc
          split at hc <;> first | rfl | (cases hc; done)
        refine (ie_kget g1 g2 (K.kd q hq) (sn a (md := .E) K ha) hcon (by rw [beq_iff_eq]; exact hl) (by rw [List.any_cons, hs]; rfl)).eq fun ρ S => ?_
        conv => rhs; unfold ev evs
        conv => rhs; unfold ev
        simp only [R.bind_ok]
        conv => rhs; unfold evs
        conv => rhs; unfold ev
        simp only [R.bind_ok]
        conv => rhs; unfold evs
        rw [R.bind_assoc, R.bind_assoc, R.bind_assoc]
        refine bind_congr fun y S1 => ?_
        conv => rhs; unfold evs
        conv => rhs; unfold ev
        simp only [evs_nil, R.bind_ok, List.map_cons, List.map_nil, hd]
        cases y with
        | loc l =>
          show R.opt none S1 = R.opt (bifT "get" [_, _, (match S1[l]? with | some (.lst xs) => T.vl xs | _ => T.loc l), d]) S1
          split <;> rfl
        | _ => rfl
      · cases h
    · cases h
  | .bty f es, B, k, md, sc, e, K, h => by
    refine good_nrm ?_
    unfold ck at h
    generalize nrm md e = p at h ⊢
    rw [Bool.and_eq_true] at h
    obtain ⟨h0, h⟩ := h
    split at h
    · rename_i x pn l ls pos he
      simp only [Bool.and_eq_true, beq_iff_eq, Bool.not_eq_true', beq_eq_false_iff_ne] at h
      obtain ⟨⟨⟨⟨hb, hg⟩, hm⟩, hn⟩, ha⟩ := h
      obtain ⟨g1, g2⟩ := glob_of hg
      have l2 := (ckA_len ha).2.1
      have hm := K.bl x (by simpa using hm)
      have ha := snA es K ha
      rw [Bool.or_eq_true] at h0
      rcases h0 with h0 | h0
      · simp only [Bool.and_eq_true, beq_iff_eq] at h0
        obtain ⟨h1, rfl⟩ := h0
        obtain ⟨md, e⟩ := p
        have h1 : md = _ := h1
        subst h1
        have he : e = _ := he
        subst he
        obtain rfl : x = "list" := by
          simp only [btB, Bool.and_eq_true, beq_iff_eq, Bool.or_eq_true] at hb
          rcases hb with ((⟨z, _⟩ | ⟨z, _⟩) | ⟨_, z⟩) | ⟨z, _⟩
          · exact absurd z (by decide)
          · exact absurd z (by decide)
          · exact z
          · exact absurd z (by decide)
        refine (show IF B k D.N sc _ _ from if_list g1 hm (by kernel_rfl) g2 l2 ha).eq fun ρ S => ?_
        conv => rhs; unfold ev
        rw [R.bind_assoc]
        refine bind_congr fun xs S1 => ?_
        rw [bty_ls]
        cases lsT (xs.map (vw S1)) <;> rfl
      · refine good_ie h0 ?_
        rw [he]
        simp only [btB, Bool.and_eq_true, beq_iff_eq, Bool.or_eq_true] at hb
        refine IE.eq (m := fun ρ S => (evs (cf tab W k) es ρ S).bind fun xs S => R.opt (btyT f (xs.map (vw S))) S) ?_ fun ρ S => by conv => rhs; unfold ev
        rcases hb with ((⟨rfl, rfl⟩ | ⟨rfl, rfl⟩) | ⟨rfl, rfl⟩) | ⟨rfl, rfl⟩
        · exact ie_bty call_intI g1 hm (by kernel_rfl) hn g2 l2 ha
        · exact ie_bty call_tupI g1 hm (by kernel_rfl) hn g2 l2 ha
        · exact ie_bty call_lstI g1 hm (by kernel_rfl) hn g2 l2 ha
        · exact ie_bty call_strI g1 hm (by kernel_rfl) hn g2 l2 ha
    · cases h
  | .mth o m es, B, k, md, sc, e, K, h => by
    refine good_nrm ?_
    unfold ck at h
    generalize nrm md e = p at h ⊢
    rw [Bool.and_eq_true] at h
    refine good_ie h.1 ?_
    have h := h.2
    split at h
    · rename_i l nm ap pos he
      simp only [Bool.and_eq_true, beq_iff_eq] at h
      obtain ⟨⟨⟨⟨⟨rfl, rfl⟩, hc⟩, hl⟩, ho⟩, ha⟩ := h
      rw [he]
      have := ckA_nil ha
      subst this
      refine (ie_upper (sn o (md := .E) K ho) (call_of hc) (by rw [beq_iff_eq]; exact hl)).eq fun ρ S => ?_
      conv => rhs; unfold ev
      refine bind_congr fun x S1 => ?_
      cases x <;> (try simp only [evs_nil]) <;> (try rfl)
    · rename_i l nm ap l1 ls pos he
      simp only [Bool.and_eq_true, beq_iff_eq, decide_eq_true_eq] at h
      obtain ⟨⟨⟨⟨⟨⟨rfl, hm⟩, hc⟩, hl⟩, h30⟩, ho⟩, ha⟩ := h
      rw [he]
      have l2 := (ckA_len ha).2.1
      have ha := snA es K ha
      have ho : IE B k D.N sc l _ := sn o (md := .E) K ho
      have hl : (ap.endLine == pos.line) = true := by rw [beq_iff_eq]; exact hl
      simp only [mtB, beq_iff_eq, Bool.or_eq_true] at hm
      refine IE.eq (m := fun ρ S => (ev (cf tab W k) o ρ S).bind fun x S => (match x with
        | .loc l => (match S[l]? with
          | some (.lst _) => (evs (cf tab W k) es ρ S).bind fun xs S => (match S[l]? with
            | some (.lst ys) => mthS nm l ys xs S
            | _ => .bad)
          | _ => .bad)
        | x => (evs (cf tab W k) es ρ S).bind fun xs S => R.opt (mthT nm x xs) S)) ?_ fun ρ S => by (conv => rhs; unfold ev) <;> rfl
      rcases hm with ((((rfl | rfl) | rfl) | rfl) | rfl) | rfl
      · exact ie_mthL PySem.F.slot_list_append PySem.F.type_list_append (fun X => mt_append (X := X)) mth_append (fun x ts => by rfl) ho ha (call_of hc) hl l2 h30
      · exact ie_mthL PySem.F.slot_list_extend PySem.F.type_list_extend (fun X => mt_extend (X := X)) mth_extend (fun x ts => by rfl) ho ha (call_of hc) hl l2 h30
      · exact ie_mthL PySem.F.slot_list_pop PySem.F.type_list_pop (fun X => mt_popAt (X := X)) mth_popAt (fun x ts => by rfl) ho ha (call_of hc) hl l2 h30
      · exact ie_mthL PySem.F.slot_list_insert PySem.F.type_list_insert (fun X => mt_insert (X := X)) mth_insert (fun x ts => by rfl) ho ha (call_of hc) hl l2 h30
      · exact ie_count ho ha (call_of hc) hl l2 h30
      · exact ie_index ho ha (call_of hc) hl l2 h30
    · cases h
  | .comp own g it cs elt, B, k, md, sc, e, K, h => by
    refine good_nrm ?_
    unfold ck at h
    generalize nrm md e = p at h ⊢
    obtain ⟨md, e⟩ := p
    rw [Bool.and_eq_true] at h
    obtain ⟨h0, h⟩ := h
    split at h
    · rename_i l tg iter ifs scope pos he
      have he : e = _ := he
      subst he
      simp only [Bool.and_eq_true] at h
      obtain ⟨⟨⟨⟨⟨⟨hi, hb⟩, hg⟩, hx⟩, hc⟩, hl⟩, hs⟩ := h
      have hF := if_comp (pos := pos) (snI it (tg := tg) K hi) (blk_ok hb) (ig_of hg) (by
        rw [own_snd]
        intro i hi
        rw [List.all_eq_true] at hx
        simpa using hx i hi) (fun ψ => snC cs (K.wi ψ) hc) (fun ψ => sn elt (md := .E) (K.wi ψ) hl) (set_of hs)
      rw [own_snd] at hF
      have key : ∀ ρ S, ev (cf tab W k) (.comp own g it cs elt) ρ S = ((evi (cf tab W k) it ρ S).bind fun xl S => compL xl.2 S (fun x S1 => (R.opt (tgt g x (wipe ρ own) S1) S1).bind fun ρ1 S1 =>
          (evc (cf tab W k) cs ρ1 S1).bind fun k' S1 => if k' then (ev (cf tab W k) elt ρ1 S1).bind fun v S1 => .ok (some v) S1 else .ok none S1) xl.1 [] S).bind fun xs S => .ok (.vl xs) S := fun ρ S => by
        conv => lhs; unfold ev
        rw [R.bind_assoc]
      rw [Bool.or_eq_true, beq_iff_eq] at h0
      rcases h0 with h0 | h0
      · have h0 : md = _ := h0
        subst h0
        refine hF.eq fun ρ S => ?_
        rw [key, R.bind_assoc]
        exact (R.bind_id _).symm
      · exact good_ie h0 (hF.ie.eq fun ρ S => (key ρ S).symm)
    · cases h
  | .sset b a, B, k, md, sc, e, K, h => by
    refine good_nrm ?_
    unfold ck at h
    generalize nrm md e = p at h ⊢
    rw [Bool.and_eq_true] at h
    refine good_ie h.1 ?_
    have h := h.2
    split at h
    · rename_i x px y py l qp pos he
      simp only [Bool.and_eq_true, Bool.not_eq_true'] at h
      obtain ⟨⟨⟨⟨⟨⟨⟨hx, hy⟩, hg⟩, hg2⟩, hm⟩, hm2⟩, hs⟩, ha⟩ := h
      rw [he]
      have hx : x = if b then ("sorted" : Str) else ("len" : Str) := by simpa using hx
      have hy : y = ("set" : Str) := by simpa using hy
      subst hy
      refine (ie_sset hx (glob_of hg).1 (K.bl x (by simpa using hm)) (glob_of hg2).1 (K.bl _ (by simpa using hm2)) hs (sn a (md := .E) K ha)).eq fun ρ S => ?_
      conv => rhs; unfold ev
    · cases h
  | .lzip a b, B, k, md, sc, e, K, h => by
    refine good_nrm ?_
    unfold ck at h
    generalize nrm md e = p at h ⊢
    rw [Bool.and_eq_true] at h
    refine good_ie h.1 ?_
    have h := h.2
    split at h
    · rename_i x px y py l l2 qp pos he
      simp only [Bool.and_eq_true, Bool.not_eq_true'] at h
      obtain ⟨⟨⟨⟨⟨⟨⟨⟨⟨hx, hy⟩, hg⟩, hg2⟩, hm⟩, hm2⟩, hs⟩, hs2⟩, ha⟩, hb⟩ := h
      rw [he]
      have hx : x = ("list" : Str) := by simpa using hx
      have hy : y = ("zip" : Str) := by simpa using hy
      subst hx
      subst hy
      refine (ie_lzip (glob_of hg).1 (K.bl _ (by simpa using hm)) (glob_of hg2).1 (K.bl _ (by simpa using hm2)) hs hs2 (sn a (md := .E) K ha) (sn b (md := .E) K hb)).eq fun ρ S => ?_
      conv => rhs; unfold ev
    · cases h
  | .ssc own g it cs own2 g2 it2 cs2 elt, B, k, md, sc, e, K, h => by
    refine good_nrm ?_
    unfold ck at h
    generalize nrm md e = p at h ⊢
    rw [Bool.and_eq_true] at h
    refine good_ie h.1 ?_
    have h := h.2
    split at h
    · rename_i x px l tg iter ifs tg1 iter1 ifs1 scope sp pos he
      simp only [Bool.and_eq_true] at h
      obtain ⟨⟨⟨⟨⟨⟨⟨⟨⟨⟨⟨⟨⟨⟨⟨hx, hgl⟩, hm⟩, hi⟩, hb⟩, hg⟩, hix⟩, hc⟩, hi1⟩, hg1⟩, hix1⟩, hv⟩, hc1⟩, hl⟩, hs⟩, hs1⟩ := h
      have hx : x = ("sorted" : Str) := by simpa using hx
      subst hx
      rw [he]
      have q := ie_ssc (p := px) (sp := sp) (pos := pos) (own := ownOf D.N own) (vs1 := own2) (glob_of hgl).1 (K.bl _ (by simpa using hm)) (snI it (tg := tg) K hi) (blk_ok hb) (ig_of hg) (by
        rw [own_snd]
        intro i hi
        rw [List.all_eq_true] at hix
        simpa using hix i hi) (fun ψ => snC cs (K.wi ψ) hc) (fun ψ => snI it2 (tg := tg1) (K.wi ψ) hi1) (ig_of hg1) (by
        intro i hi
        rw [List.all_eq_true] at hix1
        simpa using hix1 i hi) (by
        rw [own_snd]
        intro i hi
        rw [List.all_eq_true] at hv
        simpa using hv i hi) (fun ψ => snC cs2 (K.wi ψ) hc1) (fun ψ => sn elt (md := .E) (K.wi ψ) hl) (set_of hs) (set_of hs1)
      rw [own_snd] at q
      refine q.eq fun ρ S => ?_
      conv => rhs; unfold ev
    · cases h
  | .callS f a es, B, k, md, sc, e, K, h => by
    refine good_nrm ?_
    unfold ck at h
    generalize nrm md e = p at h ⊢
    rw [Bool.and_eq_true] at h
    refine good_ie h.1 ?_
    have h := h.2
    split at h
    · rename_i x pn l ls pos he
      simp only [Bool.and_eq_true, beq_iff_eq, List.any_eq_true, Bool.not_eq_true'] at h
      obtain ⟨⟨⟨⟨⟨rfl, hg⟩, ⟨q, hq, ⟨q1, q2⟩, q3⟩⟩, hs⟩, hst⟩, ha⟩ := h
      rw [he]
      obtain ⟨g1, g2⟩ := glob_of hg
      obtain ⟨fn, fa, fd, F, ht, hb⟩ := K.own q hq
      rw [q1] at F ht
      rw [q2, q3] at hb
      refine (ie_callS g1 g2 F ht hb hs (by rw [List.any_eq_true]; exact hst) (snAs es K ha)).eq fun ρ S => ?_
      conv => rhs; unfold ev
      rfl
    · cases h
  | .cix f es y, B, k, md, sc, e, K, h => by
    refine good_nrm ?_
    unfold ck at h
    generalize nrm md e = p at h ⊢
    rw [Bool.and_eq_true] at h
    refine good_ie h.1 ?_
    have h := h.2
    split at h
    · rename_i x px l ls p1 nm ap l2 pos he
      simp only [Bool.and_eq_true, beq_iff_eq, List.any_eq_true, Bool.not_eq_true'] at h
      obtain ⟨⟨⟨⟨⟨⟨⟨rfl, rfl⟩, hg⟩, ⟨q, hq, q1, q2⟩⟩, hl⟩, hs⟩, ha⟩, hy⟩ := h
      rw [he]
      obtain ⟨g1, g2⟩ := glob_of hg
      obtain ⟨fn, fa, fd, F, ht, hb⟩ := K.pl q hq
      rw [q1] at F ht
      rw [q2] at hb
      obtain ⟨l1, l2', l5⟩ := ckA_len ha
      refine (ie_cix g1 g2 F ht hb l2' (snA es K ha) (fun ρ S ts S' h => by rw [evs_len l5 h, ← l1]; rfl) (sn y (md := .E) K hy) hs (by rw [beq_iff_eq]; exact hl)).eq fun ρ S => ?_
      conv => rhs; unfold ev
      rfl
    · cases h
theorem snA {D : Dat} {tab : Str → Option Fn} {W : Nat} : ∀ (xs : Exs) {B : Base} {k : Nat} {sc : Scp} {es : List Expr}, Kn B tab W k D → ckA D sc es xs = true → IA B k D.N sc es (evs (cf tab W k) xs)
  | .nil, B, k, sc, es, K, h => by
    unfold ckA at h
    have : es = [] := by simpa using h
    subst this
    have e : (fun (_ : Env) S => (R.ok [] S : R (List T))) = evs (cf tab W k) .nil := funext fun ρ => funext fun S => by unfold evs; rfl
    rw [← e]
    exact ia_nil
  | .cons x xs, B, k, sc, es, K, h => by
    unfold ckA at h
    cases es with
    | nil => cases h
    | cons e es =>
      simp only [Bool.and_eq_true, Bool.not_eq_true'] at h
      have q := ia_cons h.1.1 (sn x (md := .E) K h.1.2) (snA xs K h.2)
      have e : evs (cf tab W k) (.cons x xs) = _ := funext fun ρ => funext fun S => by
        conv => lhs; unfold evs
      rw [e]
      exact q
  | .star _ _, B, k, sc, es, K, h => by unfold ckA at h; cases h
theorem snAs {D : Dat} {tab : Str → Option Fn} {W : Nat} : ∀ (xs : Exs) {B : Base} {k : Nat} {sc : Scp} {es : List Expr}, Kn B tab W k D → ckAs D sc es xs = true → IA B k D.N sc es (evs (cf tab W k) xs)
  | .nil, B, k, sc, es, K, h => by
    unfold ckAs at h
    have : es = [] := by simpa using h
    subst this
    have e : (fun (_ : Env) S => (R.ok [] S : R (List T))) = evs (cf tab W k) .nil := funext fun ρ => funext fun S => by unfold evs; rfl
    rw [← e]
    exact ia_nil
  | .cons x xs, B, k, sc, es, K, h => by
    unfold ckAs at h
    cases es with
    | nil => cases h
    | cons e es =>
      simp only [Bool.and_eq_true, Bool.not_eq_true'] at h
      have q := ia_cons h.1.1 (sn x (md := .E) K h.1.2) (snAs xs K h.2)
      have e : evs (cf tab W k) (.cons x xs) = _ := funext fun ρ => funext fun S => by
        conv => lhs; unfold evs
      rw [e]
      exact q
  | .star x xs, B, k, sc, es, K, h => by
    unfold ckAs at h
    split at h
    · rename_i e p es
      simp only [Bool.and_eq_true] at h
      have q := ia_star (p := p) (sn x (md := .E) K h.1) (snAs xs K h.2)
      have e : evs (cf tab W k) (.star x xs) = _ := funext fun ρ => funext fun S => by
        conv => lhs; unfold evs
      rw [e]
      exact q
    · cases h
theorem snD {D : Dat} {tab : Str → Option Fn} {W : Nat} : ∀ (xs : Exs) {B : Base} {k : Nat} {sc : Scp} {es : List Expr} {ks : List Str}, Kn B tab W k D → ckA D sc es xs = true → es.length = ks.length → ID B k D.N sc ks es (evs (cf tab W k) xs)
  | .nil, B, k, sc, es, ks, K, h, hl => by
    unfold ckA at h
    have : es = [] := by simpa using h
    subst this
    have : ks = [] := by simpa using hl.symm
    subst this
    have e : (fun (_ : Env) S => (R.ok [] S : R (List T))) = evs (cf tab W k) .nil := funext fun ρ => funext fun S => by unfold evs; rfl
    rw [← e]
    exact id_nil
  | .cons x xs, B, k, sc, es, ks, K, h, hl => by
    unfold ckA at h
    cases es with
    | nil => cases h
    | cons e es =>
      cases ks with
      | nil => simp at hl
      | cons y ks =>
        simp only [Bool.and_eq_true, Bool.not_eq_true'] at h
        have q := id_cons (x := y) (fun ψ => sn x (md := .E) (K.wi ψ) h.1.2) (snD xs (ks := ks) K h.2 (by simpa using hl))
        have e : evs (cf tab W k) (.cons x xs) = _ := funext fun ρ => funext fun S => by
          conv => lhs; unfold evs
        rw [e]
        exact q
  | .star _ _, B, k, sc, es, ks, K, h, hl => by unfold ckA at h; cases h
theorem snK {D : Dat} {tab : Str → Option Fn} {W : Nat} : ∀ (xs : Exs) {B : Base} {k : Nat} {sc : Scp} {es : List Keyword}, Kn B tab W k D → ckK D sc es xs = true → IKw B k D.N sc es (evs (cf tab W k) xs)
  | .nil, B, k, sc, es, K, h => by
    unfold ckK at h
    have : es = [] := by simpa using h
    subst this
    have e : (fun (_ : Env) S => (R.ok [] S : R (List T))) = evs (cf tab W k) .nil := funext fun ρ => funext fun S => by unfold evs; rfl
    rw [← e]
    exact ik_nil
  | .cons x xs, B, k, sc, es, K, h => by
    unfold ckK at h
    cases es with
    | nil => cases h
    | cons e es =>
      obtain ⟨nm, e1, kp⟩ := e
      have h : (ck D .E sc e1 x && ckK D sc es xs) = true := h
      simp only [Bool.and_eq_true] at h
      have q := ik_cons (nm := nm) (kpos := kp) (sn x (md := .E) K h.1) (snK xs K h.2)
      have e : evs (cf tab W k) (.cons x xs) = _ := funext fun ρ => funext fun S => by
        conv => lhs; unfold evs
      rw [e]
      exact q
  | .star _ _, B, k, sc, es, K, h => by unfold ckK at h; cases h
theorem snC {D : Dat} {tab : Str → Option Fn} {W : Nat} : ∀ (xs : Exs) {B : Base} {k : Nat} {sc : Scp} {es : List Expr}, Kn B tab W k D → ckC D sc es xs = true → ITs B k D.N sc es (evc (cf tab W k) xs)
  | .nil, B, k, sc, es, K, h => by
    unfold ckC at h
    have : es = [] := by simpa using h
    subst this
    exact its_nil.eq fun ρ S => by conv => rhs; unfold evc
  | .cons x xs, B, k, sc, es, K, h => by
    unfold ckC at h
    split at h
    · refine (its_one (sn x (md := .T) K h)).eq fun ρ S => ?_
      conv => rhs; unfold evc
      refine bind_congr fun v S1 => ?_
      refine (R.bind_id _).symm.trans (bind_congr fun c S2 => ?_)
      cases c with
      | false => rfl
      | true => simp only [if_true]; unfold evc; rfl
    · cases h
  | .star _ _, B, k, sc, es, K, h => by unfold ckC at h; cases h
theorem snO {D : Dat} {tab : Str → Option Fn} {W : Nat} : ∀ (x : OEx) {B : Base} {k : Nat} {sc : Scp} {e : Option Expr}, Kn B tab W k D → ckO D sc e x = true → IO B k D.N sc e (evo (cf tab W k) x)
  | .none, B, k, sc, e, K, h => by
    unfold ckO at h
    have : e = none := by simpa using h
    subst this
    have e : (fun (_ : Env) S => (R.ok none S : R (Option Int))) = evo (cf tab W k) .none := funext fun ρ => funext fun S => by unfold evo; rfl
    rw [← e]
    exact io_none
  | .some x, B, k, sc, e, K, h => by
    unfold ckO at h
    cases e with
    | none => cases h
    | some e =>
      have q := io_some (sn x (md := .E) K h)
      have e : evo (cf tab W k) (.some x) = _ := funext fun ρ => funext fun S => by
        conv => lhs; unfold evo
      rw [e]
      exact q
theorem snI {D : Dat} {tab : Str → Option Fn} {W : Nat} : ∀ (x : It) {B : Base} {k : Nat} {sc : Scp} {tg e : Expr}, Kn B tab W k D → ckI D sc (isTup tg) e x = true → II B k D.N sc tg e (evi (cf tab W k) x)
  | .plain x, B, k, sc, tg, e, K, h => by
    unfold ckI at h
    exact (ii_plain (sn x (md := .E) K h)).eq fun ρ S => by conv => rhs; unfold evi
  | .range (.cons a .nil), B, k, sc, tg, e, K, h => by
    unfold ckI at h
    split at h
    · rename_i x pn l pos
      simp only [Bool.and_eq_true, beq_iff_eq, Bool.not_eq_true'] at h
      obtain ⟨⟨⟨⟨rfl, hg⟩, hm⟩, hs⟩, ha⟩ := h
      refine (ii_range1 (glob_of hg).1 (K.bl _ (by simpa using hm)) hs (sn a (md := .E) K ha)).eq fun ρ S => ?_
      conv => rhs; unfold evi evs
      rw [R.bind_assoc]
      refine bind_congr fun x S1 => ?_
      unfold evs
      rfl
    · cases h
  | .range (.cons a (.cons b .nil)), B, k, sc, tg, e, K, h => by
    unfold ckI at h
    split at h
    · rename_i x pn l r pos
      simp only [Bool.and_eq_true, beq_iff_eq, Bool.not_eq_true'] at h
      obtain ⟨⟨⟨⟨⟨⟨rfl, hg⟩, hm⟩, hs⟩, hs2⟩, ha⟩, hb⟩ := h
      refine (ii_range2 (glob_of hg).1 (K.bl _ (by simpa using hm)) hs hs2 (sn a (md := .E) K ha) (sn b (md := .E) K hb)).eq fun ρ S => ?_
      conv => rhs; unfold evi evs
      rw [R.bind_assoc]
      refine bind_congr fun x S1 => ?_
      unfold evs
      rw [R.bind_assoc, R.bind_assoc]
      refine bind_congr fun y S2 => ?_
      unfold evs
      rfl
    · cases h
  | .range .nil, B, k, sc, tg, e, K, h => by unfold ckI at h; cases h
  | .range (.star _ _), B, k, sc, tg, e, K, h => by unfold ckI at h; cases h
  | .range (.cons _ (.star _ _)), B, k, sc, tg, e, K, h => by unfold ckI at h; cases h
  | .range (.cons _ (.cons _ (.star _ _))), B, k, sc, tg, e, K, h => by unfold ckI at h; cases h
  | .range (.cons _ (.cons _ (.cons _ _))), B, k, sc, tg, e, K, h => by unfold ckI at h; cases h
  | .enum a, B, k, sc, tg, e, K, h => by
    unfold ckI at h
    split at h
    · rename_i x pn l pos
      simp only [Bool.and_eq_true, beq_iff_eq, Bool.not_eq_true'] at h
      obtain ⟨⟨⟨⟨⟨ht, rfl⟩, hg⟩, hm⟩, hs⟩, ha⟩ := h
      cases tg with
      | Tuple elts kk tp =>
        refine (ii_enum (glob_of hg).1 (K.bl _ (by simpa using hm)) hs (sn a (md := .E) K ha)).eq fun ρ S => ?_
        conv => rhs; unfold evi
      | _ => cases ht
    · cases h
  | .zip a b, B, k, sc, tg, e, K, h => by
    unfold ckI at h
    split at h
    · rename_i x pn l r pos
      simp only [Bool.and_eq_true, beq_iff_eq, Bool.not_eq_true'] at h
      obtain ⟨⟨⟨⟨⟨⟨⟨ht, rfl⟩, hg⟩, hm⟩, hs⟩, hs2⟩, ha⟩, hb⟩ := h
      cases tg with
      | Tuple elts kk tp =>
        refine (ii_zip (glob_of hg).1 (K.bl _ (by simpa using hm)) hs hs2 (sn a (md := .E) K ha) (sn b (md := .E) K hb)).eq fun ρ S => ?_
        conv => rhs; unfold evi
      | _ => cases ht
    · cases h
end
end Px
end
section
set_option linter.all false
set_option maxRecDepth 100000
/-! Px16: the look at statements, and that they are reckoned soundly. -/
namespace Px
open PySem PySem.Spec PyProof.Rows L2
section
variable {B : Base} {k : Nat} {N : List Str} {sc : Scp} {e : Expr} {es : List Expr} {pos : Pos}
theorem IS.eq {st : Stmt} {m m' : Env → Sto → R (Fl × Env)} (h : IS B k N sc st m) (q : ∀ ρ S, m ρ S = m' ρ S) : IS B k N sc st m' := by
  have : m = m' := funext fun ρ => funext fun S => q ρ S
  rwa [this] at h
/-- y = [.. for ..], an object of the store -/
theorem is_asgN {y : Str} {i : Nat} {py lp : Pos} {tg elt iter : Expr} {ifs : List Expr} {scope : Scope} {own : List (Str × Nat)} {g : Tg} {mi : Env → Sto → R (List T × Option Nat)} {mc : Env → Sto → R Bool} {me : Env → Sto → R T} (hkind : sc.kind = .function) (hN : N[i]? = some y) (hl : sc.names.lookup y = some .local)
    (hline : (py.line == lp.line) = true) (hno : (scope.names.any fun (n, k) => n == y && (k == .local || k == .cell)) = false) (hi : II B k N sc tg iter mi) (ok : BlkOk N sc.toScope scope own)
    (hg : IG B k N (sc.blk scope) tg g) (hix : ∀ i ∈ g.ix, i ∈ own.map (·.2)) (ht : ∀ ψ, ITs (B.wi ψ) k N (sc.blk scope) ifs mc) (he : ∀ ψ, IE (B.wi ψ) k N (sc.blk scope) elt me) (hs : ∀ env x, foldedSetIterable iter env x = pure x) :
    IS B k N sc (.Assign [.Name y py] (.ListComp elt [⟨tg, iter, ifs, 0⟩] scope lp) pos) (fun ρ S => ((mi ρ S).bind fun xl S => compL xl.2 S (fun x S1 => (R.opt (tgt g x (wipe ρ (own.map (·.2))) S1) S1).bind fun ρ1 S1 =>
      (mc ρ1 S1).bind fun k S1 => if k then (me ρ1 S1).bind fun v S1 => .ok (some v) S1 else .ok none S1) xl.1 [] S).bind fun xs S => .ok (.nx, ρ.set i (some (.loc S.length))) (S ++ [.lst xs])) := fun X s => by
  refine PS.imp (ps_setLc s.calm (by rw [s.hN]; exact s.nd) (by rw [s.hN]; exact hN) (by rw [s.hsc]; exact hl) (sw_true (by rw [s.hsc]; exact hkind) (by rw [s.hsc]; exact hl) hline hno) (hi X s) (by rw [s.hN, s.hsc]; exact ok) (fun s' H C cl fp => hg _ (s.blk scope s' H C cl fp))
    (fun s' H C cl fp => ex_t fun ψ => ht ψ _ ((s.blk scope s' H C cl fp).wi ψ)) (fun s' H C cl fp => ex_e fun ψ => he ψ _ ((s.blk scope s' H C cl fp).wi ψ)) (hs X.env)) fun D σ H ⟨φ, ρ, S, hS, hE, hp⟩ => ?_
  refine comp_read hix σ H _ ⟨φ, ρ, S, hS, hE, hp.bind fun xs S1 φ1 H1 vs _ e1 hS1 rv hp1 p hn => ?_⟩
  exact hp1 _ _ _ (Ext.push hn) (hS1.push hn (.lst rv)) (((hE.ext e1).ext (Ext.push hn)).set i (.loc (by rw [← hS1.len, List.getElem?_append_right (Nat.le_refl _), Nat.sub_self]; rfl)))
end
def notComp : Expr → Bool
  | .ListComp .. => false
  | .SetComp .. => false
  | .DictComp .. => false
  | _ => true
def isName : Expr → Bool
  | .Name .. => true
  | _ => false
def noSwap : Expr → Expr → Bool
  | .Tuple ts _ _, .Tuple vs _ _ => !(ts.length == 2 || ts.length == 3) || vs.length != ts.length
  | .List .., .Tuple .. => false
  | _, _ => true
theorem swap_none {t v : Expr} (h : noSwap t v = true) (env : PySem.Env) : swappedStores [t] v env = pure none := by
  unfold noSwap at h
  split at h
  · unfold swappedStores
    rename_i ts _ _ vs _ _
    refine if_pos ?_
    rw [h]; rfl
  · cases h
  · unfold swappedStores
    split
    · rename_i h2
      split at h2
      · cases h2
        rename_i heq n1 n2
        rw [List.cons.injEq] at heq
        exact (n1 _ _ _ _ _ _ heq.1 rfl).elim
      · cases h2
        rename_i heq n1 n2
        rw [List.cons.injEq] at heq
        exact (n2 _ _ _ _ _ heq.1 rfl).elim
      · cases h2
    · rfl
theorem sw_false {t v : Expr} (h : (notComp v || !isName t) = true) (line : Nat) (env : PySem.Env) : swapsWithSole [t] v line env = pure false := by
  show swapsWith v (some t) line env = pure false
  unfold swapsWith
  cases v with
  | ListComp a b c d => cases t <;> first | (cases h; done) | rfl
  | SetComp a b c d => cases t <;> first | (cases h; done) | rfl
  | DictComp a b c d e => cases t <;> first | (cases h; done) | rfl
  | _ => rfl
theorem sw_expr {v : Expr} (h : notComp v = true) (line : Nat) (env : PySem.Env) : swapsWith v none line env = pure false := by
  unfold swapsWith
  cases v <;> first | (cases h; done) | rfl

def ckCmp (D : Dat) (sc : Scp) (l tg iter : Expr) (ifs : List Expr) (scope : Scope) (own : List Nat) (g : Tg) (it : It) (cs : Exs) (elt : Ex) : Bool :=
  ckI D sc (isTup tg) iter it && blkB D.N sc.toScope scope (ownOf D.N own) && ckG D (sc.blk scope) tg g && g.ix.all (own.contains ·) && ckC D (sc.blk scope) ifs cs && ck D .E (sc.blk scope) l elt && notSet iter
def ckNm (D : Dat) (sc : Scp) (y : Str) (py lp : Pos) (scope : Scope) (i : Nat) : Bool :=
  sc.kind == .function && D.N[i]? == some y && sc.names.lookup y == some .local && py.line == lp.line && !(scope.names.any fun (n, k) => n == y && (k == .local || k == .cell))
mutual
def ckS (D : Dat) (sc : Scp) : Stmt → Sm → Bool
  | st, .asg g x => (match st with
    | .Assign [.Name y py] (.ListComp l [⟨tg, iter, ifs, 0⟩] scope lp) _ => (match g, x with
      | .nm i, .comp own g' it cs elt => ckNm D sc y py lp scope i && ckCmp D sc l tg iter ifs scope own g' it cs elt
      | .nm i, .new (.comp own g' it cs elt) => ckNm D sc y py lp scope i && ckCmp D sc l tg iter ifs scope own g' it cs elt
      | _, _ => false)
    | .Assign [t] e _ => !isStar t && ck D .E sc e x && ckG D sc t g && noSwap t e && (notComp e || !isName t)
    | _ => false)
  | st, .par is es => (match st with
    | .Assign [.Tuple [.Name x px, .Name y py] _ _] (.Tuple [a, b] _ _) _ => (match is, es with
      | [i, j], .cons p (.cons q .nil) => sc.kind == .function && D.N[i]? == some x && D.N[j]? == some y && i != j && sc.names.lookup x == some .local && sc.names.lookup y == some .local && py.line == px.line && x != y && !isStar a && !isStar b &&
        !([a, b].all (foldedForSure 8)) && !([a, b].all (constantsAlone 8)) && ck D .E sc a p && ck D .E sc b q
      | _, _ => false)
    | .Assign [.Tuple [.Name x px, .Name y py, .Name z pz] _ _] (.Tuple [a, b, c] _ _) _ => (match is, es with
      | [i, j, l], .cons p (.cons q (.cons r .nil)) => sc.kind == .function && D.N[i]? == some x && D.N[j]? == some y && D.N[l]? == some z && i != j && i != l && j != l && sc.names.lookup x == some .local && sc.names.lookup y == some .local && sc.names.lookup z == some .local && py.line == px.line && pz.line == px.line && x != y && x != z && y != z && !isStar a && !isStar b && !isStar c &&
        !([a, b, c].all (foldedForSure 8)) && !([a, b, c].all (constantsAlone 8)) && ck D .E sc a p && ck D .E sc b q && ck D .E sc c r
      | _, _ => false)
    | _ => false)
  | st, .set o i x => (match st with
    | .Assign [.Subscript o' i' p] e _ => ck D .E sc e x && ck D .E sc o' o && ck D .E sc i' i && notSlice i'
    | _ => false)
  | st, .star i j x => (match st with
    | .Assign [.Tuple [.Name x' _, .Starred (.Name y _) _] _ _] e _ => D.N[i]? == some x' && mayStore sc x' && D.N[j]? == some y && mayStore sc y && ck D .E sc e x && !isTup e
    | _ => false)
  | st, .exp x => (match st with
    | .Expr e _ => ck D .E sc e x && notComp e
    | _ => false)
  | st, .ret x => (match st with
    | .Return (some e) _ => ck D .E sc e x
    | _ => false)
  | st, .retN => (match st with
    | .Return none _ => true
    | _ => false)
  | st, .ife c a b => (match st with
    | .If c' a' b' _ => ck D .T sc c' c && ckSs D sc a' a && ckSs D sc b' b
    | _ => false)
  | st, .whl c b => (match st with
    | .While c' b' [] _ => ck D .T sc c' c && ckSs D sc b' b
    | _ => false)
  | st, .for g it b => (match st with
    | .For tg iter b' [] _ => ckI D sc (isTup tg) iter it && ckG D sc tg g && ckSs D sc b' b && notSet iter
    | _ => false)
  | st, .brk => (match st with
    | .Break _ => true
    | _ => false)
  | st, .cnt => (match st with
    | .Continue _ => true
    | _ => false)
  | st, .pss => (match st with
    | .Pass _ => true
    | .Expr (.Constant (.str _) _ _) _ => true
    | _ => false)
  | _, .nev => true
  | st, .stars is l x => (match st with
    | .Assign [.Tuple [.Name x' _, .Name y _, .Starred (.Name z _) _] _ _] e _ => (match is with
      | [i, j] => D.N[i]? == some x' && mayStore sc x' && D.N[j]? == some y && mayStore sc y && D.N[l]? == some z && mayStore sc z && ck D .E sc e x && !isTup e
      | _ => false)
    | _ => false)
  | st, .mtc i cs => (match st with
    | .Match (.Name x _) ms _ => D.N[i]? == some x && visB sc x && !(x == ("__debug__" : Str)) && !(x == ("__classdict__" : Str)) && ckM D sc ms cs
    | _ => false)
def ckSs (D : Dat) (sc : Scp) : List Stmt → Sms → Bool
  | sts, .nil => sts.isEmpty
  | sts, .cons s ss => (match sts with
    | st :: sts => ckS D sc st s && ckSs D sc sts ss
    | _ => false)
def ckM (D : Dat) (sc : Scp) : List MatchCase → Mcs → Bool
  | ms, .nil => ms.isEmpty
  | ms, .cons (some w) b cs => (match ms with
    | ⟨.MatchValue (.Constant (.str y) _ _) _, none, body⟩ :: rest => y == w && ckSs D sc body b && ckM D sc rest cs
    | _ => false)
  | ms, .cons none b _ => (match ms with
    | ⟨.MatchAs none none _, none, body⟩ :: _ => ckSs D sc body b
    | _ => false)
end

section
variable {B : Base} {k : Nat} {sc : Scp} {D : Dat} {tab : Str → Option Fn} {W : Nat}
theorem passes {N : List Str} : ∀ X : Cx, Sit B k N sc X → PassesOwn (model X.prog X.w) X.A X.env X.xe := fun X s => by
  rw [s.xe]
  exact PassesOwn.never
theorem ck_nm {y : Str} {py lp : Pos} {scope : Scope} {i : Nat} (h : ckNm D sc y py lp scope i = true) : sc.kind = .function ∧ D.N[i]? = some y ∧ sc.names.lookup y = some .local ∧ (py.line == lp.line) = true ∧ (scope.names.any fun (n, k) => n == y && (k == .local || k == .cell)) = false := by
  simp only [ckNm, Bool.and_eq_true, Bool.not_eq_true'] at h
  obtain ⟨⟨⟨⟨a, b⟩, c⟩, d⟩, e⟩ := h
  exact ⟨by simpa using a, by simpa using b, by simpa using c, d, e⟩
mutual
theorem snS : ∀ (s : Sm) {B : Base} {k : Nat} {sc : Scp} {st : Stmt}, Kn B tab W k D → ckS D sc st s = true → IS B k D.N sc st (exec (cf tab W k) s)
  | .asg g x, B, k, sc, st, K, h => by
    unfold ckS at h
    split at h
    · rename_i y py l tg iter ifs scope lp pos
      split at h
      · rename_i i own g' it cs elt
        rw [Bool.and_eq_true] at h
        obtain ⟨n1, n2, n3, n4, n5⟩ := ck_nm h.1
        have h := h.2
        simp only [ckCmp, Bool.and_eq_true] at h
        obtain ⟨⟨⟨⟨⟨⟨hi, hb⟩, hg⟩, hx⟩, hc⟩, hl⟩, hs⟩ := h
        have q := is_asgC (pos := pos) n1 n2 n3 n4 n5 (snI it (tg := tg) K hi) (blk_ok hb) (ig_of hg) (by
          rw [own_snd]
          intro i hi
          rw [List.all_eq_true] at hx
          simpa using hx i hi) (fun ψ => snC cs (K.wi ψ) hc) (fun ψ => sn elt (md := .E) (K.wi ψ) hl) (set_of hs)
        rw [own_snd] at q
        refine q.eq fun ρ S => ?_
        conv => rhs; unfold exec ev
        rw [R.bind_assoc, R.bind_assoc]
        refine bind_congr fun xl S1 => ?_
        rw [R.bind_assoc]
        rfl
      · rename_i i own g' it cs elt
        rw [Bool.and_eq_true] at h
        obtain ⟨n1, n2, n3, n4, n5⟩ := ck_nm h.1
        have h := h.2
        simp only [ckCmp, Bool.and_eq_true] at h
        obtain ⟨⟨⟨⟨⟨⟨hi, hb⟩, hg⟩, hx⟩, hc⟩, hl⟩, hs⟩ := h
        have q := is_asgN (pos := pos) n1 n2 n3 n4 n5 (snI it (tg := tg) K hi) (blk_ok hb) (ig_of hg) (by
          rw [own_snd]
          intro i hi
          rw [List.all_eq_true] at hx
          simpa using hx i hi) (fun ψ => snC cs (K.wi ψ) hc) (fun ψ => sn elt (md := .E) (K.wi ψ) hl) (set_of hs)
        rw [own_snd] at q
        refine q.eq fun ρ S => ?_
        conv => rhs; unfold exec ev
        conv => rhs; unfold ev
        rw [R.bind_assoc, R.bind_assoc, R.bind_assoc]
        refine bind_congr fun xl S1 => ?_
        rw [R.bind_assoc]
        rfl
      · cases h
    · rename_i t e pos _
      simp only [Bool.and_eq_true, Bool.not_eq_true'] at h
      obtain ⟨⟨⟨⟨h1, h2⟩, h3⟩, h4⟩, h5⟩ := h
      exact (is_asg h1 (sn x (md := .E) K h2) (ig_of h3) (sw_false h5 _) (swap_none h4)).eq fun ρ S => by
        (conv => rhs; unfold exec) <;> rfl
    · cases h
  | .par is es, B, k, sc, st, K, h => by
    unfold ckS at h
    split at h
    · split at h
      · rename_i i j p q
        simp only [Bool.and_eq_true, Bool.not_eq_true', bne_iff_ne, beq_iff_eq] at h
        obtain ⟨⟨⟨⟨⟨⟨⟨⟨⟨⟨⟨⟨⟨h1, h2⟩, h3⟩, h4⟩, h5⟩, h6⟩, h7⟩, h8⟩, h9⟩, h10⟩, h11⟩, h12⟩, h13⟩, h14⟩ := h
        refine (is_par2 h1 h2 h3 h4 h5 h6 (by rw [beq_iff_eq]; exact h7) h8 h9 h10 h11 h12 (sn p (md := .E) K h13) (sn q (md := .E) K h14)).eq fun ρ S => ?_
        conv => rhs; unfold exec evs
        rw [R.bind_assoc]
        refine bind_congr fun x S1 => ?_
        conv => rhs; unfold evs
        rw [R.bind_assoc, R.bind_assoc]
        refine bind_congr fun x S1 => ?_
        rw [evs_nil]
        rfl
      · cases h
    · split at h
      · rename_i i j l p q r
        simp only [Bool.and_eq_true, Bool.not_eq_true', bne_iff_ne, beq_iff_eq] at h
        obtain ⟨⟨⟨⟨⟨⟨⟨⟨⟨⟨⟨⟨⟨⟨⟨⟨⟨⟨⟨⟨⟨⟨h1, h2⟩, h3⟩, h4⟩, h5⟩, h6⟩, h7⟩, h8⟩, h9⟩, h10⟩, h11⟩, h12⟩, h13⟩, h14⟩, h15⟩, h16⟩, h17⟩, h18⟩, h19⟩, h20⟩, h21⟩, h22⟩, h23⟩ := h
        refine (is_par3 h1 h2 h3 h4 h5 h6 h7 h8 h9 h10 (by rw [beq_iff_eq]; exact h11) (by rw [beq_iff_eq]; exact h12) h13 h14 h15 h16 h17 h18 h19 h20 (sn p (md := .E) K h21) (sn q (md := .E) K h22) (sn r (md := .E) K h23)).eq fun ρ S => ?_
        conv => rhs; unfold exec evs
        rw [R.bind_assoc]
        refine bind_congr fun x S1 => ?_
        conv => rhs; unfold evs
        rw [R.bind_assoc, R.bind_assoc]
        refine bind_congr fun x S1 => ?_
        conv => rhs; unfold evs
        rw [R.bind_assoc, R.bind_assoc]
        refine bind_congr fun x S1 => ?_
        rw [evs_nil]
        rfl
      · cases h
    · cases h
  | .set o i x, B, k, sc, st, K, h => by
    unfold ckS at h
    split at h
    · simp only [Bool.and_eq_true] at h
      exact (is_set (sn x (md := .E) K h.1.1.1) (sn o (md := .E) K h.1.1.2) (sn i (md := .E) K h.1.2) (sw_false (by simp [isName]) _) (swap_none (by rfl)) (by
        rintro a b c d rfl
        cases h.2)).eq fun ρ S => by (conv => rhs; unfold exec) <;> rfl
    · cases h
  | .star i j x, B, k, sc, st, K, h => by
    unfold ckS at h
    split at h
    · simp only [Bool.and_eq_true, beq_iff_eq, Bool.not_eq_true'] at h
      obtain ⟨⟨⟨⟨⟨h1, h2⟩, h3⟩, h4⟩, h5⟩, h6⟩ := h
      exact (is_star h1 h2 h3 h4 (sn x (md := .E) K h5) (sw_false (by simp [isName]) _) (swap_none (by unfold noSwap; split <;> first | rfl | (cases h6; done) | skip))).eq fun ρ S => by (conv => rhs; unfold exec) <;> rfl
    · cases h
  | .exp x, B, k, sc, st, K, h => by
    unfold ckS at h
    split at h
    · rw [Bool.and_eq_true] at h
      exact (is_exp (sn x (md := .E) K h.1) (sw_expr h.2 _)).eq fun ρ S => by (conv => rhs; unfold exec) <;> rfl
    · cases h
  | .ret x, B, k, sc, st, K, h => by
    unfold ckS at h
    split at h
    · exact (is_ret (sn x (md := .E) K h)).eq fun ρ S => by (conv => rhs; unfold exec) <;> rfl
    · cases h
  | .retN, B, k, sc, st, K, h => by
    unfold ckS at h
    split at h
    · exact is_retN.eq fun ρ S => by (conv => rhs; unfold exec) <;> rfl
    · cases h
  | .ife c a b, B, k, sc, st, K, h => by
    unfold ckS at h
    split at h
    · simp only [Bool.and_eq_true] at h
      refine (is_if (sn c (md := .T) K h.1.1) (snSs a K h.1.2) (snSs b K h.2)).eq fun ρ S => ?_
      conv => rhs; unfold exec
      rw [R.bind_assoc]
    · cases h
  | .whl c b, B, k, sc, st, K, h => by
    unfold ckS at h
    split at h
    · simp only [Bool.and_eq_true] at h
      exact (is_while (W := W) (sn c (md := .T) K h.1) (snSs b K h.2) passes).eq fun ρ S => by (conv => rhs; unfold exec) <;> rfl
    · cases h
  | .for g it b, B, k, sc, st, K, h => by
    unfold ckS at h
    split at h
    · simp only [Bool.and_eq_true] at h
      exact (is_for (snI it K h.1.1.1) (ig_of h.1.1.2) (snSs b K h.1.2) passes (set_of h.2)).eq fun ρ S => by (conv => rhs; unfold exec) <;> rfl
    · cases h
  | .brk, B, k, sc, st, K, h => by
    unfold ckS at h
    split at h
    · exact is_brk.eq fun ρ S => by (conv => rhs; unfold exec) <;> rfl
    · cases h
  | .cnt, B, k, sc, st, K, h => by
    unfold ckS at h
    split at h
    · exact is_cnt.eq fun ρ S => by (conv => rhs; unfold exec) <;> rfl
    · cases h
  | .pss, B, k, sc, st, K, h => by
    unfold ckS at h
    split at h
    · exact is_pass.eq fun ρ S => by (conv => rhs; unfold exec) <;> rfl
    · exact is_doc.eq fun ρ S => by (conv => rhs; unfold exec) <;> rfl
    · cases h
  | .nev, B, k, sc, st, K, h => fun X s => by
    refine PS.imp ps_never fun D σ H ⟨φ, ρ, S, hS, hE, hp⟩ => ?_
    unfold exec at hp
    exact hp
  | .stars is l x, B, k, sc, st, K, h => by
    unfold ckS at h
    split at h
    · split at h
      · simp only [Bool.and_eq_true, beq_iff_eq, Bool.not_eq_true'] at h
        obtain ⟨⟨⟨⟨⟨⟨⟨h1, h2⟩, h3⟩, h4⟩, h5⟩, h6⟩, h7⟩, h8⟩ := h
        exact (is_stars2 h1 h2 h3 h4 h5 h6 (sn x (md := .E) K h7) (sw_false (by simp [isName]) _) (swap_none (by unfold noSwap; split <;> first | rfl | (cases h8; done) | skip))).eq fun ρ S => by (conv => rhs; unfold exec) <;> rfl
      · cases h
    · cases h
  | .mtc i cs, B, k, sc, st, K, h => by
    unfold ckS at h
    split at h
    · simp only [Bool.and_eq_true, beq_iff_eq, Bool.not_eq_true'] at h
      obtain ⟨⟨⟨⟨h1, h2⟩, h3⟩, h4⟩, h5⟩ := h
      exact (is_match h1 (vis_of h2) h3 h4 (snM cs K h5)).eq fun ρ S => by (conv => rhs; unfold exec) <;> rfl
    · cases h
theorem snSs : ∀ (ss : Sms) {B : Base} {k : Nat} {sc : Scp} {sts : List Stmt}, Kn B tab W k D → ckSs D sc sts ss = true → ISs B k D.N sc sts (execs (cf tab W k) ss)
  | .nil, B, k, sc, sts, K, h => by
    unfold ckSs at h
    have : sts = [] := by simpa using h
    subst this
    have e : (fun (ρ : Env) S => (R.ok (Fl.nx, ρ) S : R (Fl × Env))) = execs (cf tab W k) .nil := funext fun ρ => funext fun S => by unfold execs; rfl
    rw [← e]
    exact iss_nil
  | .cons s ss, B, k, sc, sts, K, h => by
    unfold ckSs at h
    cases sts with
    | nil => cases h
    | cons st sts =>
      simp only [Bool.and_eq_true] at h
      have q := iss_cons (snS s K h.1) (snSs ss K h.2)
      have e : execs (cf tab W k) (.cons s ss) = _ := funext fun ρ => funext fun S => by
        conv => lhs; unfold execs
      rw [e]
      exact q
theorem snM : ∀ (cs : Mcs) {B : Base} {k : Nat} {sc : Scp} {ms : List MatchCase}, Kn B tab W k D → ckM D sc ms cs = true → IM B k D.N sc ms (fun z => execM (cf tab W k) z cs)
  | .nil, B, k, sc, ms, K, h => by
    unfold ckM at h
    have : ms = [] := by simpa using h
    subst this
    have e : (fun (_ : Str) (ρ : Env) S => (R.ok (Fl.nx, ρ) S : R (Fl × Env))) = fun z => execM (cf tab W k) z .nil := funext fun z => funext fun ρ => funext fun S => by unfold execM; rfl
    rw [← e]
    exact im_nil
  | .cons (some w) b cs, B, k, sc, ms, K, h => by
    unfold ckM at h
    split at h
    · simp only [Bool.and_eq_true, beq_iff_eq] at h
      obtain ⟨⟨hw, h1⟩, h2⟩ := h
      rw [hw]
      have e : (fun z => execM (cf tab W k) z (.cons (some w) b cs)) = fun z ρ S => if z = w then execs (cf tab W k) b ρ S else execM (cf tab W k) z cs ρ S := funext fun z => funext fun ρ => funext fun S => by
        conv => lhs; unfold execM
      rw [e]
      exact im_str (snSs b K h1) (snM cs K h2)
    · cases h
  | .cons none b cs, B, k, sc, ms, K, h => by
    unfold ckM at h
    split at h
    · have e : (fun z => execM (cf tab W k) z (.cons none b cs)) = fun _ => execs (cf tab W k) b := funext fun z => funext fun ρ => funext fun S => by
        conv => lhs; unfold execM
      rw [e]
      exact im_all (snSs b K h)
    · cases h
end
end
end Px
end
section
set_option linter.all false
set_option maxRecDepth 100000
/-! Px17: the ends of a law. -/
namespace Px
open PySem PySem.Spec PyProof.Rows L2

/-- the heap told at the law's start: the script and the table of modules, both known to the object -/
theorem law_callG {P : Program} {w : World} {K : PySem.W.Frag} {mg mb : Str → Option Value} {k : Nat} {fa a : Addr} {fd : FuncData} {x : Str} {tab : Str → Option Fn} {W : Nat} {fn : Fn} {S' : Sto} {s₁ : Shared} {vs : List Value} {ns : List Int}
    (KX : K.In s₁.heap) (hns : s₁.heap.Ns mainGlobals mg) (hb : s₁.heap.Ns builtinsNs mb) (hbb : ∀ x : Str, x ≠ "__name__" → mb x = bootBuiltins x) (hlim : s₁.heap.NoLimit) (hg : s₁.gens = #[])
    (ha : s₁.heap.get? a = some { cls := .type "list", data := .seq vs.toArray }) (hi : IntsAre vs ns) (hl : ns.length ≤ sizeLine) (hr : Room k callerA) (hsys : ∃ mm, s₁.heap.Ns sysModules mm) (hKs : K.lookup sysModules = none)
    (F : ∀ base : Heap, K.In base → base.Ns mainGlobals mg → FnG ⟨P, w, K, mg, base, []⟩ tab W k fn fa fd) (hbind : ∀ (s : Shared) (u : Value), BindsTo s fd ⟨[u], []⟩ [(x, u)]) (hps : fn.ps = [x])
    (hrun : runF tab W k fn [.scr (ns.map .int)] [] = .ok (.bl true) S') :
    codeAny (model P w) callerA (.call (.ref fa) ⟨[.ref a], []⟩) (fun r s' => r = .ok (.ret (.bool true)) ∧ OldK s₁.heap s'.heap ∧ s'.os = s₁.os ∧ AllBare s'.gens) s₁ := by
  have rv := vals_ints hi
  have lenV := hi.length
  obtain ⟨mm, oS, eS, epS, hoS, hdS, _⟩ := hsys
  have hne : a ≠ sysModules := by
    intro z
    rw [z, hoS] at ha
    cases ha
    have d' : Data.seq vs.toArray _ = Data.dict eS epS := hdS
    cases d'
  -- which of the two is told
  have core : ∀ (H : Hp), H sysModules = some (.frz oS (.ext fun _ => True)) → LstAt K [] [] H a (ns.map V.int) → HOk P w H s₁.heap → (∀ b, H b ≠ none → b = sysModules ∨ (b = a ∧ K.lookup a = none)) → (∀ b u, H b = some u → ∃ o v, u = .frz o v) →
      codeAny (model P w) callerA (.call (.ref fa) ⟨[.ref a], []⟩) (fun r s' => r = .ok (.ret (.bool true)) ∧ OldK s₁.heap s'.heap ∧ s'.os = s₁.os ∧ AllBare s'.gens) s₁ := by
    intro H hHs hS hok hA hfr
    have noH : ∀ {b : Addr} {m : Str → Option Value}, s₁.heap.Ns b m → b ≠ sysModules → H b = none := fun {b m} hn hb' => by
      obtain ⟨o, es, ep, e, d, r⟩ := hn
      cases q : H b with
      | none => rfl
      | some u =>
        rcases hA b (by rw [q]; simp) with z | ⟨z, _⟩
        · exact absurd z hb'
        · subst z
          rw [ha] at e; cases e
          have d' : Data.seq vs.toArray _ = Data.dict es ep := d
          cases d'
    have nsK : ∀ {b : Addr} {m : Str → Option Value}, s₁.heap.Ns b m → b ≠ sysModules → (hidT s₁.heap H).Ns b m := fun {b m} hn hb' => by
      have n := noH hn hb'
      obtain ⟨o, es, ep, e, d, r⟩ := hn
      exact ⟨o, es, ep, hidT_get e n, d, r⟩
    have hKb : K.In (hidT s₁.heap H) := fun b o e => hidT_get (KX b o e) (by
      cases q : H b with
      | none => rfl
      | some u =>
        rcases hA b (by rw [q]; simp) with z | ⟨z, z2⟩
        · subst z; rw [hKs] at e; cases e
        · subst z; rw [z2] at e; cases e)
    have hgn := nsK hns (by decide)
    have hM : Mod K mg (hidT s₁.heap H) := ⟨hKb, hgn, ⟨mb, nsK hb (by decide), hbb⟩, let ⟨mc, h1, h2⟩ := hlim; ⟨mc, nsK h1 (by decide), h2⟩⟩
    have e0 : Env0 P w K mg (hidT s₁.heap H) callerA [] s₁ H := ⟨rfl, hM, fun b o e => of_hidT e, Nat.le_of_eq (hidT_size _ _), trivial, fun b hb => absurd (show b ∈ ([] : List Addr) from hb) (by simp), hok, .of_eq hg⟩
    have hRS : RelS K mg [] [] [] H := ⟨rfl, List.nodup_nil, fun b hb => absurd hb (by simp), ⟨oS, hHs⟩, fun i b o hb => by simp at hb⟩
    have hrep : Reps K mg [] [] H [.ref a] [.scr (ns.map .int)] := by
      refine .cons (.scr hS ?_) .nil
      clear hrun hS rv lenV hl hi
      induction ns with
      | nil => exact .nil
      | cons n ns ih => exact .cons (.int n) ih
    refine codeAny_mono ((F _ hKb hgn).run [] callerA [] s₁ H ⟨[.ref a], []⟩ [.ref a] [.ref a] [] [] _ (fun v _ => v = .bl true) hr rfl e0 (by rw [hps]; exact hbind s₁ (.ref a)) (.cons rfl .nil) hRS hrep (by rw [hps]; rfl) (by
      rw [hrun]
      intro φ' H' v _ _ q
      cases q
      rfl)) fun r s' h => ?_
    cases r with
    | error e => exact False.elim h
    | ok fl =>
      cases fl with
      | next => exact False.elim h
      | brk => exact False.elim h
      | cont => exact False.elim h
      | ret u =>
        obtain ⟨v, H', os, bare, un, hok', r', q⟩ := h
        have q' : v = .bl true := q
        subst q'
        obtain rfl : u = Value.bool true := r'
        refine ⟨rfl, OldK.of_keep fun b o e => ?_, os, bare⟩
        cases q : H b with
        | none => exact un.keep b o e q (by intro z; exact absurd (show b ∈ ([] : List Addr) from z) (by simp)) (by simp)
        | some u =>
          obtain ⟨ob, v, rfl⟩ := hfr b u q
          have z2 := un.frzs b ob _ q
          obtain ⟨e1, _⟩ := hok b _ q
          obtain ⟨e2, _⟩ := hok' b _ z2
          rw [e] at e1; cases e1
          exact e2
  have okS : ∀ H : Hp, ObjOk P w H s₁.heap sysModules (.frz oS (.ext fun _ => True)) := fun H => ⟨hoS, trivial, ⟨oS, hoS⟩, fun _ _ _ _ => trivial⟩
  cases hk : K.lookup a with
  | some o =>
    have e := KX a o hk
    rw [ha] at e
    cases e
    refine core (fun b => if b = sysModules then some (.frz oS (.ext fun _ => True)) else none) (if_pos rfl) (.inr (.inr ⟨_, vs.toArray, _, hk, rfl, rfl, rfl, by rw [List.size_toArray, lenV]; exact hl, by simpa using rv⟩)) (fun b u z => ?_) (fun b z => ?_) fun b u z => ?_
    · by_cases hb : b = sysModules
      · have z' := (if_pos hb).symm.trans z
        cases z'
        rw [hb]
        exact okS _
      · have z' := (if_neg hb).symm.trans z
        cases z'
    · by_cases hb : b = sysModules
      · exact .inl hb
      · exact absurd (if_neg hb) z
    · by_cases hb : b = sysModules
      · have z' := (if_pos hb).symm.trans z
        cases z'
        exact ⟨_, _, rfl⟩
      · have z' := (if_neg hb).symm.trans z
        cases z'
  | none =>
    refine core (fun b => if b = sysModules then some (.frz oS (.ext fun _ => True)) else if b = a then some (.frz { cls := .type "list", data := .seq vs.toArray } (.lst (ns.map V.int))) else none) (if_pos rfl) (.inl ⟨.inr ⟨{ cls := .type "list", data := .seq vs.toArray }, (if_neg hne).trans (if_pos rfl)⟩, by simp, by simp⟩) (fun b u z => ?_) (fun b z => ?_) fun b u z => ?_
    · by_cases hb : b = sysModules
      · have z' := (if_pos hb).symm.trans z
        cases z'
        rw [hb]
        exact okS _
      · have z1 := (if_neg hb).symm.trans z
        by_cases hb2 : b = a
        · have z' := (if_pos hb2).symm.trans z1
          cases z'
          subst hb2
          exact ⟨ha, by rw [List.length_map]; exact hl, vs, _, rv, ha⟩
        · have z' := (if_neg hb2).symm.trans z1
          cases z'
    · by_cases hb : b = sysModules
      · exact .inl hb
      · by_cases hb2 : b = a
        · exact .inr ⟨hb2, hk⟩
        · exact absurd ((if_neg hb).trans (if_neg hb2)) z
    · by_cases hb : b = sysModules
      · have z' := (if_pos hb).symm.trans z
        cases z'
        exact ⟨_, _, rfl⟩
      · have z1 := (if_neg hb).symm.trans z
        by_cases hb2 : b = a
        · have z' := (if_pos hb2).symm.trans z1
          cases z'
          exact ⟨_, _, rfl⟩
        · have z' := (if_neg hb2).symm.trans z1
          cases z'
/-- the goal behind k_head -/
theorem walk_G {l : PySem.W.OpenLaw} {n k : Nat} {q : Program} {loose : List Str} {XP : (Str → Option Value) → Heap → Prop} {YP : World → Heap → Prop} {d : DefRec} {K : Params → PySem.W.Frag} {x : Str} {tab : Str → Option Fn} {W : List Int → Nat} {fn : Fn}
    (hn : l.most = some n) (hn2 : n ≤ sizeLine) (hdf : d.params.defaults = []) (hr : Room k callerA) (hin : importsNone q = true)
    (hY : ∀ (w : World) (h : Heap), YP w h → (K w.params).In h) (hKs : ∀ p, (K p).lookup sysModules = none)
    (F : ∀ (w : World) (mg : Str → Option Value) (fa : Addr) (h : Heap), (K w.params).In h → h.Ns mainGlobals mg → mg d.name = some (.ref fa) →
      ∃ fd : FuncData, (∀ (s : Shared) (u : Value), BindsTo s fd ⟨[u], []⟩ [(x, u)]) ∧
        ∀ (W : Nat) (base : Heap), (K w.params).In base → base.Ns mainGlobals mg → FnG ⟨l.prog, w, K w.params, mg, base, []⟩ tab W k fn fa fd)
    (hps : fn.ps = [x]) (hrun : ∀ ns : List Int, ns.length ≤ n → ∃ S', runF tab (W ns) k fn [.scr (ns.map .int)] [] = .ok (.bl true) S') :
    PySem.W.WalkO q loose XP YP l.row.toRowW d [] (fun f vs => PySem.call f vs) := by
  refine Att.attach_call hn hdf fun w s₀ s₁ mg mb fa o pm cd doc a vs ns G Y ho hd hcd hmg hobj hints hlen hg => ?_
  have KX := hY w _ Y
  obtain ⟨fd, hb, hF⟩ := F w mg fa _ KX G.T.g hmg
  obtain ⟨S', hS'⟩ := hrun ns hlen
  obtain ⟨mm, h1, _⟩ := (G.T.seer hin).mods
  exact law_callG KX G.T.g G.T.b G.T.builtins G.T.nolimit hg hobj hints (Nat.le_trans hlen hn2) hr ⟨mm, h1⟩ (hKs _) (hF (W ns)) hb hps hS'
end Px
end
section
set_option linter.all false
set_option maxRecDepth 100000
/-! Px18: a law's program as a table of its functions. -/
namespace Px
open PySem PySem.Spec PyProof.Rows L2

structure Ent where
  x : Str
  st : Stmt
  fn : Fn
  N : List Str
  calls : List (Nat × List Str)
  pl : List Nat := []
structure Pg where
  ents : List Ent
  con : List (Str × T)
  bl : List Str
  kd : List (Str × List Str × List T)
def Pg.calls (p : Pg) : List (Str × Nat × List Str) := p.ents.flatMap fun e => e.calls.map fun s => (e.x, s.1, s.2)
/-- the functions that end with a new tuple, and how many arguments their calls have -/
def Pg.pls (p : Pg) : List (Str × Nat) := p.ents.flatMap fun e => e.pl.map fun a => (e.x, a)
def Pg.dat (p : Pg) (e : Ent) : Dat := ⟨e.N, p.con, p.bl, p.calls, p.kd, p.pls⟩
/-- its body is return tuple(sorted({..})) -/
def retTup (D : Dat) (sc : Scp) : List Stmt → Sms → Bool
  | [.Return (some (.Call (.Name x _) [e] [] _)) _], .cons (.ret (.bty "tuple" (.cons (.ssc own g it cs own2 g2 it2 cs2 elt) .nil))) .nil => x == ("tuple" : Str) && globB sc x && D.bl.contains x && !isStar e && ck D .E sc e (.ssc own g it cs own2 g2 it2 cs2 elt)
  | _, _ => false
def look (x : Str) : List Ent → Option Fn
  | [] => none
  | e :: es => if e.x == x then some e.fn else look x es
def Pg.tab (p : Pg) (x : Str) : Option Fn := look x p.ents
def scOf (st : Stmt) : Scp := { defScope st with own := fun _ => true }
def EntAt (K : PySem.W.Frag) (mg : Str → Option Value) (e : Ent) : Prop := ∃ f fd, Fun K e.x e.x e.st f fd ∧ mg e.x = some (.ref f) ∧ ∀ s ∈ e.calls, BindOk fd e.fn.ps s.1 s.2
structure EntOk (p : Pg) (e : Ent) : Prop where
  ck : ckSs (p.dat e) (scOf e.st) (defBody e.st) e.fn.body = true
  sc : FnScope e.N e.fn.ps (defScope e.st)
  n : e.fn.n = e.N.length
  tab : p.tab e.x = some e.fn
  pl : e.pl = [] ∨ (retTup (p.dat e) (scOf e.st) (defBody e.st) e.fn.body = true ∧ e.fn.keep = false ∧ ∀ a ∈ e.pl, (a, []) ∈ e.calls)
def ConAt (K : PySem.W.Frag) (mg : Str → Option Value) (p : Str × T) : Prop := ∃ u v, mg p.1 = some u ∧ RelV v u ∧ ∀ ψ φ H, Rep K mg ψ φ H v p.2
/-- a dict of the module, written -/
def KdAt (P : Params) (K : PySem.W.Frag) (mg : Str → Option Value) (x : Str) (ks : List Str) (vs : List T) : Prop := ∃ a, mg x = some (.ref a) ∧ He.dicW K a = some (He.keysIn P ks) ∧ ks.length = vs.length ∧
  ∀ p ∈ ks.zip vs, ∃ u v, PySem.W.nsIn K a p.1 = some (some u) ∧ RelV v u ∧ ∀ ψ φ H, Rep K mg ψ φ H v p.2
structure TopOk (P : Params) (K : PySem.W.Frag) (mg : Str → Option Value) (p : Pg) : Prop where
  ents : ∀ e ∈ p.ents, EntAt K mg e
  con : ∀ q ∈ p.con, ConAt K mg q
  bl : ∀ x ∈ p.bl, mg x = none
  kd : ∀ q ∈ p.kd, KdAt P K mg q.1 q.2.1 q.2.2

theorem ssc_vl {C : Cfg} {own own2 : List Nat} {g g2 : Tg} {it it2 : It} {cs cs2 : Exs} {elt : Ex} {ρ : Env} {S S' : Sto} {t : T} (h : ev C (.ssc own g it cs own2 g2 it2 cs2 elt) ρ S = .ok t S') : ∃ xs, t = .vl xs := by
  unfold ev at h
  cases h1 : ((evi C it ρ S).bind fun xl S => compS2 xl.2 S (body0 g own (evc C cs) (evi C it2) g2 own2 (evc C cs2) (ev C elt) ρ) xl.1 [] S) with
  | bad => rw [h1] at h; cases h
  | exc => rw [h1] at h; cases h
  | ok zs S1 =>
    rw [h1] at h
    simp only [R.bind_ok, gd] at h
    split at h
    · cases h; exact ⟨_, rfl⟩
    · cases h
theorem plain_run {C : Cfg} {own own2 : List Nat} {g g2 : Tg} {it it2 : It} {cs cs2 : Exs} {elt : Ex} {ρ : Env} {S : Sto} :
    execs C (.cons (.ret (.bty "tuple" (.cons (.ssc own g it cs own2 g2 it2 cs2 elt) .nil))) .nil) ρ S = (ev C (.ssc own g it cs own2 g2 it2 cs2 elt) ρ S).bind fun x S => (R.opt (btyT "tuple" [vw S x]) S).bind fun v S => .ok (.rt v, ρ) S := by
  conv => lhs; unfold execs exec
  conv => lhs; arg 1; arg 1; unfold ev evs
  rw [R.bind_assoc, R.bind_assoc, R.bind_assoc]
  refine bind_congr fun x S1 => ?_
  rw [evs_nil]
  simp only [R.bind_ok, List.map_cons, List.map_nil]
  first
    | done
    | (rw [R.bind_assoc]; refine bind_congr fun v S2 => ?_; rfl)
theorem pl_G {B : Base} {p : Pg} {W n : Nat} {e : Ent} {f : Addr} {fd : FuncData} (Kk : ∀ ψ, Kn (B.wi ψ) p.tab W n (p.dat e)) (o : EntOk p e) (F : Fun B.K e.x e.x e.st f fd) (h : retTup (p.dat e) (scOf e.st) (defBody e.st) e.fn.body = true) (hk : e.fn.keep = false) : FnP B p.tab W (n + 1) e.fn f fd := by
  unfold retTup at h
  split at h
  · rename_i x px y pos rp own g it cs own2 g2 it2 cs2 elt hb hbody
    simp only [Bool.and_eq_true, Bool.not_eq_true', beq_iff_eq] at h
    obtain ⟨⟨⟨⟨hx, hg⟩, hm⟩, hs⟩, hc⟩ := h
    subst hx
    refine FnP.succ (m := fun ρ S => (ev (cf p.tab W n) (.ssc own g it cs own2 g2 it2 cs2 elt) ρ S).bind fun x S => (R.opt (btyT "tuple" [vw S x]) S).bind fun v S => .ok (.rt v, ρ) S) F o.sc o.n hk ?_ (fun ρ S => by rw [hbody]; exact plain_run) fun ψ X s => ?_
    · intro ρ S r S' hr
      cases h1 : ev (cf p.tab W n) (.ssc own g it cs own2 g2 it2 cs2 elt) ρ S with
      | bad => simp only [h1] at hr; cases hr
      | exc => simp only [h1] at hr; cases hr
      | ok x S1 =>
        simp only [h1, R.bind_ok] at hr
        cases h2 : btyT "tuple" [vw S1 x] with
        | none => rw [h2] at hr; cases hr
        | some v => rw [h2] at hr; cases hr; exact ⟨v, rfl⟩
    · rw [hb]
      exact ret_tuple (fun ρ S t S' h => ssc_vl h) (glob_of hg).1 ((Kk ψ).bl _ (by simpa using hm)) hs (sn (.ssc own g it cs own2 g2 it2 cs2 elt) (md := .E) (Kk ψ) hc) X s
  · cases h
theorem all_G {B : Base} {p : Pg} {W : Nat} (T : TopOk B.w.params B.K B.mg p) (O : ∀ e ∈ p.ents, EntOk p e) : ∀ n, ∀ e ∈ p.ents, ∀ f fd, Fun B.K e.x e.x e.st f fd → FnG B p.tab W n e.fn f fd ∧ (e.pl ≠ [] → FnP B p.tab W n e.fn f fd)
  | 0, e, he, f, fd, F => ⟨FnG.zero, fun _ => FnP.zero⟩
  | n + 1, e, he, f, fd, F => by
    have ih := all_G (W := W) T O n
    have Kk : Kn B p.tab W n (p.dat e) := ⟨T.con, T.bl, fun q hq => by
      obtain ⟨e', he', hq⟩ := List.mem_flatMap.mp hq
      obtain ⟨s, hs, rfl⟩ := List.mem_map.mp hq
      obtain ⟨f', fd', F', hm, hb⟩ := T.ents e' he'
      exact ⟨e'.fn, f', fd', ⟨hm, F'.kp, (ih e' he' f' fd' F').1⟩, (O e' he').tab, hb s hs⟩, fun q hq => T.kd q hq, fun q hq => by
      obtain ⟨e', he', hq⟩ := List.mem_flatMap.mp hq
      obtain ⟨a, ha, rfl⟩ := List.mem_map.mp hq
      obtain ⟨f', fd', F', hm, hb⟩ := T.ents e' he'
      have hne : e'.pl ≠ [] := fun z => by rw [z] at ha; cases ha
      rcases (O e' he').pl with z | ⟨_, _, z⟩
      · exact absurd z hne
      · exact ⟨e'.fn, f', fd', ⟨hm, F'.kp, (ih e' he' f' fd' F').2 hne⟩, (O e' he').tab, hb _ (z a ha)⟩⟩
    have o := O e he
    refine ⟨FnG.succ F o.sc o.n (fun ρ S => rfl) fun ψ => ?_, fun hne => ?_⟩
    · exact snSs e.fn.body (Kk.wi ψ) o.ck
    · rcases o.pl with z | ⟨h, hk, _⟩
      · exact absurd z hne
      · exact pl_G Kk.wi o F h hk

/-- the goal behind k_head, from the table -/
theorem walk_P {l : PySem.W.OpenLaw} {q : Program} {loose : List Str} {XP : (Str → Option Value) → Heap → Prop} {YP : World → Heap → Prop} {d : DefRec} {K : Params → PySem.W.Frag} {W : List Int → Nat} {x : Str} (p : Pg) (e : Ent) (n k : Nat)
    (hn : l.most = some n) (hn2 : n ≤ sizeLine) (hdf : d.params.defaults = []) (hr : Room k callerA) (hin : importsNone q = true)
    (hY : ∀ (w : World) (h : Heap), YP w h → (K w.params).In h) (hKs : ∀ p, (K p).lookup sysModules = none)
    (O : ∀ e ∈ p.ents, EntOk p e) (T : ∀ (w : World) (mg : Str → Option Value) (fa : Addr) (h : Heap), (K w.params).In h → h.Ns mainGlobals mg → mg d.name = some (.ref fa) → TopOk w.params (K w.params) mg p)
    (he : e ∈ p.ents) (hx : e.x = d.name) (hps : e.fn.ps = [x]) (hc : (1, []) ∈ e.calls)
    (hrun : ∀ ns : List Int, ns.length ≤ n → ∃ S', runF p.tab (W ns) k e.fn [.scr (ns.map .int)] [] = .ok (.bl true) S') :
    PySem.W.WalkO q loose XP YP l.row.toRowW d [] (fun f vs => PySem.call f vs) := by
  refine walk_G (k := k) (x := x) (fn := e.fn) (tab := p.tab) (W := W) hn hn2 hdf hr hin hY hKs (fun w mg fa h KX G hmg => ?_) hps hrun
  have T' := T w mg fa h KX G hmg
  obtain ⟨f, fd, F, hm, hb⟩ := T'.ents e he
  refine ⟨fd, fun s u => ?_, fun W base hK hN => ?_⟩
  · have := hb _ hc [u] [] rfl rfl
    rw [hps] at this
    exact .of_eq this
  · have e2 : f = fa := by
      rw [hx] at hm
      have : some (Value.ref f) = some (Value.ref fa) := hm.symm.trans hmg
      cases this; rfl
    subst e2
    exact (all_G (B := ⟨l.prog, w, K w.params, mg, base, []⟩) (W := W) T' O k e he f fd F).1
end Px
end
section
set_option linter.all false
set_option maxRecDepth 100000
/-! Px19: reckoning with what my evaluators answer. -/
namespace Px
open PySem

def Run {α : Type} (r : R α) (P : α → Sto → Prop) : Prop := match r with
  | .ok a S => P a S
  | _ => False
theorem run_ok {α : Type} {a : α} {S : Sto} {P : α → Sto → Prop} : Run (.ok a S) P ↔ P a S := Iff.rfl
theorem run_bad {α : Type} {P : α → Sto → Prop} : Run (.bad : R α) P ↔ False := Iff.rfl
theorem run_bind {α β : Type} {r : R α} {f : α → Sto → R β} {P : β → Sto → Prop} : Run (r.bind f) P ↔ Run r fun a S => Run (f a S) P := by
  cases r <;> exact Iff.rfl
theorem Run.mono {α : Type} {r : R α} {P P' : α → Sto → Prop} (h : Run r P) (i : ∀ a S, P a S → P' a S) : Run r P' := by
  cases r with
  | ok a S => exact i a S h
  | exc => exact h
  | bad => exact h
theorem Run.bind {α β : Type} {r : R α} {f : α → Sto → R β} {P : α → Sto → Prop} {P' : β → Sto → Prop} (h : Run r P) (i : ∀ a S, P a S → Run (f a S) P') : Run (r.bind f) P' := run_bind.mpr (h.mono i)
theorem Run.get {α : Type} {r : R α} {P : α → Sto → Prop} (h : Run r P) : ∃ a S, r = .ok a S ∧ P a S := by
  cases r with
  | ok a S => exact ⟨a, S, rfl, h⟩
  | exc => exact h.elim
  | bad => exact h.elim
theorem run_opt {α : Type} {o : Option α} {S : Sto} {P : α → Sto → Prop} : Run (R.opt o S) P ↔ ∃ a, o = some a ∧ P a S := by
  cases o with
  | none => exact ⟨fun h => h.elim, fun ⟨_, h, _⟩ => by cases h⟩
  | some a => exact ⟨fun h => ⟨a, rfl, h⟩, fun ⟨_, h, q⟩ => by cases h; exact q⟩

/-! ### a call -/
def Fin (keep : Bool) (S : Sto) (P : T → Sto → Prop) : Fl × Env → Sto → Prop := fun r S' => match r.1 with
  | .rt v => if keep then P v S' else Run (gc S v S') P
  | .nx => if keep then P .non S' else Run (gc S .non S') P
  | _ => False
theorem run_call {tab : Str → Option Fn} {W n : Nat} {f : Str} {fn : Fn} {vs : List T} {kv : List (Str × T)} {as : List T} {S : Sto} {P : T → Sto → Prop} (ht : tab f = some fn) (hb : bindA fn.ps vs kv = some as)
    (h : Run (execs ⟨callN tab W n, W⟩ fn.body (as.map some ++ List.replicate (fn.n - as.length) none) S) (Fin fn.keep S P)) : Run (callN tab W (n + 1) f vs kv S) P := by
  unfold callN
  rw [ht]
  simp only [hb]
  unfold fin
  rw [run_bind]
  refine h.mono fun r S' q => ?_
  obtain ⟨fl, ρ⟩ := r
  unfold Fin at q
  cases fl with
  | nx => simp only at q ⊢; split <;> simp_all [Run]
  | rt v => simp only at q ⊢; split <;> simp_all [Run]
  | bk => exact q
  | ct => exact q
theorem fin_rt {S S' : Sto} {v : T} {ρ : Env} {P : T → Sto → Prop} : Fin false S P (.rt v, ρ) S' ↔ Run (gc S v S') P := by
  unfold Fin; simp
theorem fin_nx {S S' : Sto} {ρ : Env} {P : T → Sto → Prop} : Fin false S P (.nx, ρ) S' ↔ Run (gc S .non S') P := by
  unfold Fin; simp
theorem finK_rt {S S' : Sto} {v : T} {ρ : Env} {P : T → Sto → Prop} : Fin true S P (.rt v, ρ) S' ↔ P v S' := by
  unfold Fin; simp
theorem gc_same {S : Sto} {v : T} {P : T → Sto → Prop} (hv : v.bel S.length = true) (h : P v S) : Run (gc S v S) P := by
  unfold gc
  rw [if_pos ⟨fun i _ => .inl rfl, Nat.le_refl _⟩, if_pos hv, List.take_length]
  exact h
theorem gc_run {S S' : Sto} {v : T} {P : T → Sto → Prop} (hl : S.length ≤ S'.length) (hf : ∀ i, i < S.length → S'[i]? = S[i]? ∨ ∃ o, S'[i]? = some o ∧ o.bel S.length = true) (hv : v.bel S.length = true) (h : P v (S'.take S.length)) : Run (gc S v S') P := by
  unfold gc
  rw [if_pos ⟨hf, hl⟩, if_pos hv]
  exact h
end Px
end
section
set_option linter.all false
set_option maxRecDepth 100000
/-! Px20: what a run of each construct is. -/
namespace Px
open PySem
theorem ex_gd {α : Type} {b : Bool} {t : α} {P : α → Prop} : (∃ a, gd b t = some a ∧ P a) = (b = true ∧ P t) := by
  cases b <;> simp
theorem ex_map {α β : Type} {o : Option α} {f : α → β} {P : β → Prop} : (∃ a, o.map f = some a ∧ P a) = ∃ x, o = some x ∧ P (f x) := by
  cases o <;> simp
section
variable {C : Cfg} {ρ : Env} {S : Sto} {P : T → Sto → Prop}
@[simp] theorem rv_ok {α : Type} {a : α} {P : α → Sto → Prop} : Run (.ok a S) P = P a S := rfl
@[simp] theorem rv_bad {α : Type} {P : α → Sto → Prop} : Run (.bad : R α) P = False := rfl
@[simp] theorem rv_bind {α β : Type} {r : R α} {f : α → Sto → R β} {P : β → Sto → Prop} : Run (r.bind f) P = Run r fun a S => Run (f a S) P := propext run_bind
@[simp] theorem rv_opt {α : Type} {o : Option α} {P : α → Sto → Prop} : Run (R.opt o S) P = ∃ a, o = some a ∧ P a S := propext run_opt
@[simp] theorem rv_tru {v : T} {P : Bool → Sto → Prop} : Run (truR v S) P = ∃ b, tru (vw S v) = some b ∧ P b S := by unfold truR; exact propext run_opt
@[simp] theorem rv_loc {i : Nat} : Run (ev C (.loc i) ρ S) P = ∃ t, ρ[i]? = some (some t) ∧ P t S := by
  unfold ev
  split
  · rename_i t h
    rw [h]
    apply propext
    exact ⟨fun q => ⟨t, rfl, q⟩, fun ⟨t', h', q⟩ => by cases h'; exact q⟩
  · rename_i h
    apply propext
    exact ⟨fun q => q.elim, fun ⟨t', h', q⟩ => (h t' h').elim⟩
@[simp] theorem rv_con {t : T} : Run (ev C (.con t) ρ S) P = P t S := by unfold ev; rfl
@[simp] theorem rv_bin {op : BOp} {a b : Ex} : Run (ev C (.bin op a b) ρ S) P = Run (ev C a ρ S) fun x S => Run (ev C b ρ S) fun y S => ∃ t, binT op (vw S x) (vw S y) = some t ∧ P t S := by
  conv => lhs; unfold ev
  simp
@[simp] theorem rv_neg {a : Ex} : Run (ev C (.neg a) ρ S) P = Run (ev C a ρ S) fun x S => ∃ t, unN x = some t ∧ P t S := by
  conv => lhs; unfold ev
  simp
@[simp] theorem rv_not {a : Ex} : Run (ev C (.not a) ρ S) P = Run (ev C a ρ S) fun x S => ∃ b, tru (vw S x) = some b ∧ P (.bl (!b)) S := by
  conv => lhs; unfold ev
  simp
@[simp] theorem rv_and {a b : Ex} : Run (ev C (.and a b) ρ S) P = Run (ev C a ρ S) fun x S => ∃ k, tru (vw S x) = some k ∧ Run (if k then ev C b ρ S else .ok x S) P := by
  conv => lhs; unfold ev
  simp
@[simp] theorem rv_or {a b : Ex} : Run (ev C (.or a b) ρ S) P = Run (ev C a ρ S) fun x S => ∃ k, tru (vw S x) = some k ∧ Run (if k then .ok x S else ev C b ρ S) P := by
  conv => lhs; unfold ev
  simp
@[simp] theorem rv_cmp {op : COp} {a b : Ex} : Run (ev C (.cmp op a b) ρ S) P = Run (ev C a ρ S) fun x S => Run (ev C b ρ S) fun y S => ∃ k, cmpT op (vw S x) (vw S y) = some k ∧ P (.bl k) S := by
  conv => lhs; unfold ev
  simp
@[simp] theorem rv_cmp2 {o1 o2 : COp} {a b c : Ex} : Run (ev C (.cmp2 o1 o2 a b c) ρ S) P = Run (ev C a ρ S) fun x S => Run (ev C b ρ S) fun y S => ∃ k, cmpT o1 (vw S x) (vw S y) = some k ∧
    Run (if k then (ev C c ρ S).bind fun z S => (R.opt (cmpT o2 (vw S y) (vw S z)) S).bind fun k S => .ok (.bl k) S else .ok (.bl false) S) P := by
  conv => lhs; unfold ev
  simp
@[simp] theorem rv_ife {c a b : Ex} : Run (ev C (.ife c a b) ρ S) P = Run (ev C c ρ S) fun x S => ∃ k, tru (vw S x) = some k ∧ Run (if k then ev C a ρ S else ev C b ρ S) P := by
  conv => lhs; unfold ev
  simp
@[simp] theorem rv_tup {es : Exs} : Run (ev C (.tup es) ρ S) P = Run (evs C es ρ S) fun xs S => xs.length ≤ lim ∧ P (.tup xs) S := by
  conv => lhs; unfold ev
  simp only [rv_bind, rv_opt, ex_gd, decide_eq_true_eq]
@[simp] theorem rv_lst {es : Exs} : Run (ev C (.lst es) ρ S) P = Run (evs C es ρ S) fun xs S => xs.length ≤ lim ∧ P (.vl xs) S := by
  conv => lhs; unfold ev
  simp only [rv_bind, rv_opt, ex_gd, decide_eq_true_eq]
@[simp] theorem rv_dic {ks : List Str} {es : Exs} : Run (ev C (.dic ks es) ρ S) P = Run (evs C es ρ S) fun ys S => ks.length = ys.length ∧ P (.vd (ks.map .str) ys) S := by
  conv => lhs; unfold ev
  simp only [rv_bind, rv_opt, ex_gd, decide_eq_true_eq]
theorem rv_new {e : Ex} : Run (ev C (.new e) ρ S) P = Run (ev C e ρ S) fun x S => Run (match x with | .vl xs => (.ok (.loc S.length) (S ++ [.lst xs]) : R T) | _ => .bad) P := by
  conv => lhs; unfold ev
  rw [rv_bind] <;> rfl
@[simp] theorem rv_newv {xs : List T} {P : T → Sto → Prop} : Run (match T.vl xs with | .vl xs => (.ok (.loc S.length) (S ++ [.lst xs]) : R T) | _ => .bad) P = P (.loc S.length) (S ++ [.lst xs]) := rfl
@[simp] theorem rv_idx {a i : Ex} : Run (ev C (.idx a i) ρ S) P = Run (ev C a ρ S) fun x S => Run (ev C i ρ S) fun y S => ∃ t, idxT (vw S x) y = some t ∧ P t S := by
  conv => lhs; unfold ev
  simp
@[simp] theorem rv_slc {a : Ex} {lo hi : OEx} : Run (ev C (.slc a lo hi) ρ S) P = Run (ev C a ρ S) fun x S => Run (evo C lo ρ S) fun l S => Run (evo C hi ρ S) fun h S => ∃ t, slcT (vw S x) l h = some t ∧ P t S := by
  conv => lhs; unfold ev
  simp
@[simp] theorem rv_rev {a : Ex} : Run (ev C (.rev a) ρ S) P = Run (ev C a ρ S) fun x S => ∃ t, revT (vw S x) = some t ∧ P t S := by
  conv => lhs; unfold ev
  simp
@[simp] theorem rv_call {f : Str} {es : Exs} {ks : List Str} {kes : Exs} : Run (ev C (.call f es ks kes) ρ S) P = Run (evs C es ρ S) fun xs S => Run (evs C kes ρ S) fun ys S => Run (C.fc f xs (ks.zip ys) S) P := by
  conv => lhs; unfold ev
  simp
@[simp] theorem rv_bif {f : Str} {es : Exs} : Run (ev C (.bif f es) ρ S) P = Run (evs C es ρ S) fun xs S => ∃ t, bifT f (xs.map (vw S)) = some t ∧ P t S := by
  conv => lhs; unfold ev
  simp
@[simp] theorem rv_bty {f : String} {es : Exs} : Run (ev C (.bty f es) ρ S) P = Run (evs C es ρ S) fun xs S => ∃ t, btyT f (xs.map (vw S)) = some t ∧ P t S := by
  conv => lhs; unfold ev
  simp
theorem rv_mth {o : Ex} {m : Str} {es : Exs} : Run (ev C (.mth o m es) ρ S) P = Run (ev C o ρ S) fun x S => Run (match x with
    | .loc l => (match S[l]? with
      | some (.lst _) => (evs C es ρ S).bind fun xs S => (match S[l]? with
        | some (.lst ys) => mthS m l ys xs S
        | _ => .bad)
      | _ => .bad)
    | x => (evs C es ρ S).bind fun xs S => R.opt (mthT m x xs) S) P := by
  conv => lhs; unfold ev
  rw [rv_bind] <;> rfl
/-- a method of a list of the store -/
theorem run_mthL {o : Ex} {m : Str} {es : Exs} {l : Nat} (h : Run (ev C o ρ S) fun x S => x = .loc l ∧ (∃ xs, S[l]? = some (.lst xs)) ∧ Run (evs C es ρ S) fun ts S => ∃ ys, S[l]? = some (.lst ys) ∧ Run (mthS m l ys ts S) P) : Run (ev C (.mth o m es) ρ S) P := by
  rw [rv_mth]
  refine h.mono fun x S1 ⟨e, ⟨xs, hx⟩, q⟩ => ?_
  subst e
  simp only [hx, rv_bind]
  refine q.mono fun ts S2 ⟨ys, hy, q2⟩ => ?_
  simp only [hy]
  exact q2
@[simp] theorem rs_nil {P : List T → Sto → Prop} : Run (evs C .nil ρ S) P = P [] S := by unfold evs; rfl
@[simp] theorem rs_cons {e : Ex} {es : Exs} {P : List T → Sto → Prop} : Run (evs C (.cons e es) ρ S) P = Run (ev C e ρ S) fun x S => Run (evs C es ρ S) fun xs S => P (x :: xs) S := by
  conv => lhs; unfold evs
  simp
theorem rs_star {e : Ex} {es : Exs} {P : List T → Sto → Prop} : Run (evs C (.star e es) ρ S) P = Run (ev C e ρ S) fun x S => ∃ xs, seqT (vw S x) = some xs ∧ Run (evs C es ρ S) fun ys S => P (xs ++ ys) S := by
  conv => lhs; unfold evs
  simp only [rv_bind, rv_opt, rv_ok]
theorem rv_callS {f : Str} {a : Nat} {es : Exs} : Run (ev C (.callS f a es) ρ S) P = Run (evs C es ρ S) fun xs S => xs.length = a ∧ Run (C.fc f xs [] S) P := by
  conv => lhs; unfold ev
  rw [rv_bind]
  congr
  funext xs S1
  apply propext
  constructor
  · intro h
    split at h
    · rename_i q; exact ⟨q, h⟩
    · exact h.elim
  · rintro ⟨q, h⟩
    rw [if_pos q]; exact h
theorem rv_cix {f : Str} {es : Exs} {x : Ex} : Run (ev C (.cix f es x) ρ S) P = Run (evs C es ρ S) fun xs S => Run (C.fc f xs [] S) fun v S => Run (ev C x ρ S) fun y S => ∃ ts u, v = .tup ts ∧ ixT ts y = some u ∧ P u S := by
  conv => lhs; unfold ev
  rw [rv_bind]
  congr
  funext xs S1
  rw [rv_bind]
  congr
  funext v S2
  rw [rv_bind]
  congr
  funext y S3
  apply propext
  constructor
  · intro h
    cases v with
    | tup ts => rw [rv_opt] at h; obtain ⟨u, a, b⟩ := h; exact ⟨ts, u, rfl, a, b⟩
    | _ => exact h.elim
  · rintro ⟨ts, u, rfl, a, b⟩
    show Run (R.opt (ixT ts y) S3) P
    rw [rv_opt]; exact ⟨u, a, b⟩
@[simp] theorem ro_none {P : Option Int → Sto → Prop} : Run (evo C .none ρ S) P = P none S := by unfold evo; rfl
theorem ro_some {e : Ex} {P : Option Int → Sto → Prop} : Run (evo C (.some e) ρ S) P = Run (ev C e ρ S) fun x S => ∃ i, x = .int i ∧ P (some i) S := by
  conv => lhs; unfold evo
  rw [rv_bind]
  congr
  funext x S
  cases x <;> simp
@[simp] theorem rc_nil {P : Bool → Sto → Prop} : Run (evc C .nil ρ S) P = P true S := by unfold evc; rfl
@[simp] theorem rc_cons {e : Ex} {es : Exs} {P : Bool → Sto → Prop} : Run (evc C (.cons e es) ρ S) P = Run (ev C e ρ S) fun x S => ∃ k, tru (vw S x) = some k ∧ Run (if k then evc C es ρ S else .ok false S) P := by
  conv => lhs; unfold evc
  simp
@[simp] theorem ri_plain {e : Ex} {P : List T × Option Nat → Sto → Prop} : Run (evi C (.plain e) ρ S) P = Run (ev C e ρ S) fun x S => ∃ xs, itemsT (vw S x) = some xs ∧ P (xs, locOf x) S := by
  conv => lhs; unfold evi
  simp only [rv_bind, rv_opt, ex_map]
@[simp] theorem ri_range {es : Exs} {P : List T × Option Nat → Sto → Prop} : Run (evi C (.range es) ρ S) P = Run (evs C es ρ S) fun ts S => ∃ xs, rangeT ts = some xs ∧ P (xs, none) S := by
  conv => lhs; unfold evi
  simp only [rv_bind, rv_opt, ex_map]
@[simp] theorem ri_enum {e : Ex} {P : List T × Option Nat → Sto → Prop} : Run (evi C (.enum e) ρ S) P = Run (ev C e ρ S) fun x S => ∃ xs, seqT (vw S x) = some xs ∧ P (pairN xs, locOf x) S := by
  conv => lhs; unfold evi
  simp only [rv_bind, rv_opt, ex_map]
@[simp] theorem ri_zip {a b : Ex} {P : List T × Option Nat → Sto → Prop} : Run (evi C (.zip a b) ρ S) P = Run (ev C a ρ S) fun x S => Run (ev C b ρ S) fun y S => ∃ xs, zipT x y = some xs ∧ P (xs, none) S := by
  conv => lhs; unfold evi
  simp only [rv_bind, rv_opt, ex_map]
theorem rv_comp {own : List Nat} {g : Tg} {it : It} {cs : Exs} {elt : Ex} : Run (ev C (.comp own g it cs elt) ρ S) P = Run (evi C it ρ S) fun xl S => Run (compL xl.2 S (fun x S1 => (R.opt (tgt g x (wipe ρ own) S1) S1).bind fun ρ1 S1 =>
      (evc C cs ρ1 S1).bind fun k S1 => if k then (ev C elt ρ1 S1).bind fun v S1 => .ok (some v) S1 else .ok none S1) xl.1 [] S) fun ys S => P (.vl ys) S := by
  conv => lhs; unfold ev
  simp
end
section
variable {C : Cfg} {ρ : Env} {S : Sto} {P : Fl × Env → Sto → Prop}
theorem rv_sset {P : T → Sto → Prop} {b : Bool} {e : Ex} : Run (ev C (.sset b e) ρ S) P = Run (ev C e ρ S) fun x S => ∃ t, setT b (vw S x) = some t ∧ P t S := by
  conv => lhs; unfold ev
  simp
theorem rv_lzip {P : T → Sto → Prop} {a b : Ex} : Run (ev C (.lzip a b) ρ S) P = Run (ev C a ρ S) fun x S => Run (ev C b ρ S) fun y S => ∃ t, lzipT (vw S x) (vw S y) = some t ∧ P t S := by
  conv => lhs; unfold ev
  simp
theorem rv_ssc {P : T → Sto → Prop} {own : List Nat} {g : Tg} {it : It} {cs : Exs} {own2 : List Nat} {g2 : Tg} {it2 : It} {cs2 : Exs} {elt : Ex} : Run (ev C (.ssc own g it cs own2 g2 it2 cs2 elt) ρ S) P =
    Run (evi C it ρ S) fun xl S => Run (compS2 xl.2 S (body0 g own (evc C cs) (evi C it2) g2 own2 (evc C cs2) (ev C elt) ρ) xl.1 [] S) fun zs S => zs.length ≤ 4000 ∧ P (.vl ((sortU zs).map .str)) S := by
  conv => lhs; unfold ev
  rw [rv_bind, rv_bind]
  congr
  funext xl S1
  congr
  funext zs S2
  rw [rv_opt]
  apply propext
  constructor
  · rintro ⟨a, h, q⟩
    obtain ⟨h1, rfl⟩ := gd_some h
    exact ⟨of_decide_eq_true h1, q⟩
  · rintro ⟨h, q⟩
    exact ⟨_, by rw [decide_eq_true h]; rfl, q⟩
@[simp] theorem rx_asg {g : Tg} {e : Ex} : Run (exec C (.asg g e) ρ S) P = Run (ev C e ρ S) fun v S => ∃ ρ', tgt g v ρ S = some ρ' ∧ P (.nx, ρ') S := by
  conv => lhs; unfold exec
  simp
@[simp] theorem rx_par {is : List Nat} {es : Exs} : Run (exec C (.par is es) ρ S) P = Run (evs C es ρ S) fun vs S => ∃ ρ', asgs is vs ρ = some ρ' ∧ P (.nx, ρ') S := by
  conv => lhs; unfold exec
  simp
theorem rx_set {o i e : Ex} : Run (exec C (.set o i e) ρ S) P = Run (ev C e ρ S) fun v S => Run (ev C o ρ S) fun x S => Run (ev C i ρ S) fun y S => ∃ l j xs k, x = .loc l ∧ y = .int j ∧ S[l]? = some (.lst xs) ∧ L2.ixN xs.length j = some k ∧ P (.nx, ρ) (S.set l (.lst (xs.set k v))) := by
  conv => lhs; unfold exec
  simp only [rv_bind]
  congr
  funext v S1
  congr
  funext x S2
  congr
  funext y S3
  apply propext
  constructor
  · intro h
    cases x with
    | loc l =>
      cases y with
      | int j =>
        simp only at h
        split at h
        · rename_i xs hx
          split at h
          · rename_i k hk
            exact ⟨l, j, xs, k, rfl, rfl, hx, hk, h⟩
          · exact h.elim
        · exact h.elim
      | _ => exact h.elim
    | _ => exact h.elim
  · rintro ⟨l, j, xs, k, rfl, rfl, hx, hk, h⟩
    simp only [hx, hk]
    exact h
@[simp] theorem rx_exp {e : Ex} : Run (exec C (.exp e) ρ S) P = Run (ev C e ρ S) fun _ S => P (.nx, ρ) S := by
  conv => lhs; unfold exec
  simp
@[simp] theorem rx_ret {e : Ex} : Run (exec C (.ret e) ρ S) P = Run (ev C e ρ S) fun v S => P (.rt v, ρ) S := by
  conv => lhs; unfold exec
  simp
@[simp] theorem rx_retN : Run (exec C .retN ρ S) P = P (.rt .non, ρ) S := by unfold exec; rfl
@[simp] theorem rx_ife {c : Ex} {a b : Sms} : Run (exec C (.ife c a b) ρ S) P = Run (ev C c ρ S) fun x S => ∃ k, tru (vw S x) = some k ∧ Run (if k then execs C a ρ S else execs C b ρ S) P := by
  conv => lhs; unfold exec
  simp
theorem rx_whl {c : Ex} {b : Sms} : Run (exec C (.whl c b) ρ S) P = Run (whlN (fun ρ S => (ev C c ρ S).bind truR) (execs C b) C.W ρ S) P := by
  conv => lhs; unfold exec
theorem rx_for {g : Tg} {it : It} {b : Sms} : Run (exec C (.for g it b) ρ S) P = Run (evi C it ρ S) fun xl S => Run (forL xl.2 S (fun x ρ S => (R.opt (tgt g x ρ S) S).bind fun ρ S => execs C b ρ S) xl.1 ρ S) P := by
  conv => lhs; unfold exec
  simp
@[simp] theorem rx_brk : Run (exec C .brk ρ S) P = P (.bk, ρ) S := by unfold exec; rfl
@[simp] theorem rx_cnt : Run (exec C .cnt ρ S) P = P (.ct, ρ) S := by unfold exec; rfl
@[simp] theorem rx_pss : Run (exec C .pss ρ S) P = P (.nx, ρ) S := by unfold exec; rfl
theorem rx_stars {is : List Nat} {j : Nat} {e : Ex} : Run (exec C (.stars is j e) ρ S) P = Run (ev C e ρ S) fun v S => ∃ xs ρ', v = .tup xs ∧ is.length ≤ xs.length ∧ xs.length ≤ 1000000 ∧ asgs is (xs.take is.length) ρ = some ρ' ∧ P (.nx, ρ'.set j (some (.vl (xs.drop is.length)))) S := by
  conv => lhs; unfold exec
  rw [rv_bind]
  congr
  funext v S1
  apply propext
  constructor
  · intro h
    cases v with
    | tup xs =>
      simp only at h
      split at h
      · rename_i q
        rw [rv_bind, rv_opt] at h
        obtain ⟨ρ', a, b⟩ := h
        exact ⟨xs, ρ', rfl, q.1, q.2, a, b⟩
      · exact h.elim
    | _ => exact h.elim
  · rintro ⟨xs, ρ', rfl, q1, q2, a, b⟩
    simp only
    rw [if_pos ⟨q1, q2⟩, rv_bind, rv_opt]
    exact ⟨ρ', a, b⟩
theorem rx_mtc {i : Nat} {cs : Mcs} : Run (exec C (.mtc i cs) ρ S) P = ∃ z, ρ[i]? = some (some (.str z)) ∧ Run (execM C z cs ρ S) P := by
  conv => lhs; unfold exec
  apply propext
  constructor
  · intro h
    split at h
    · rename_i z q; exact ⟨z, q, h⟩
    · exact h.elim
  · rintro ⟨z, q, h⟩
    simp only [q]; exact h
theorem rm_nil {z : Str} : Run (execM C z .nil ρ S) P = P (.nx, ρ) S := by unfold execM; rfl
theorem rm_str {z w : Str} {b : Sms} {cs : Mcs} : Run (execM C z (.cons (some w) b cs) ρ S) P = if z = w then Run (execs C b ρ S) P else Run (execM C z cs ρ S) P := by
  conv => lhs; unfold execM
  split <;> rfl
theorem rm_all {z : Str} {b : Sms} {cs : Mcs} : Run (execM C z (.cons none b cs) ρ S) P = Run (execs C b ρ S) P := by unfold execM; rfl
/-- behind a statement: the rest, if it goes on -/
def Nx (C : Cfg) (ss : Sms) (P : Fl × Env → Sto → Prop) : Fl × Env → Sto → Prop := fun r S => match r.1 with
  | .nx => Run (execs C ss r.2 S) P
  | _ => P r S
@[simp] theorem nx_nx {ss : Sms} : Nx C ss P (.nx, ρ) S = Run (execs C ss ρ S) P := rfl
@[simp] theorem nx_rt {ss : Sms} {v : T} : Nx C ss P (.rt v, ρ) S = P (.rt v, ρ) S := rfl
@[simp] theorem nx_bk {ss : Sms} : Nx C ss P (.bk, ρ) S = P (.bk, ρ) S := rfl
@[simp] theorem nx_ct {ss : Sms} : Nx C ss P (.ct, ρ) S = P (.ct, ρ) S := rfl
@[simp] theorem rxs_nil : Run (execs C .nil ρ S) P = P (.nx, ρ) S := by unfold execs; rfl
@[simp] theorem rxs_cons {s : Sm} {ss : Sms} : Run (execs C (.cons s ss) ρ S) P = Run (exec C s ρ S) (Nx C ss P) := by
  conv => lhs; unfold execs
  rw [rv_bind]
  congr
  funext r S
  obtain ⟨f, ρ'⟩ := r
  cases f <;> rfl
end
/-! ### seen values -/
section
variable {S : Sto}
@[simp] theorem vw0_non : vw S .non = .non := rfl
@[simp] theorem vw0_bl {b : Bool} : vw S (.bl b) = .bl b := rfl
@[simp] theorem vw0_int {i : Int} : vw S (.int i) = .int i := rfl
@[simp] theorem vw0_str {x : Str} : vw S (.str x) = .str x := rfl
@[simp] theorem vw0_tup {xs : List T} : vw S (.tup xs) = .tup xs := rfl
@[simp] theorem vw0_vl {xs : List T} : vw S (.vl xs) = .vl xs := rfl
@[simp] theorem vw0_vd {ks vs : List T} : vw S (.vd ks vs) = .vd ks vs := rfl
@[simp] theorem vw0_scr {xs : List T} : vw S (.scr xs) = .scr xs := rfl
@[simp] theorem vw0_ty {n : String} : vw S (.ty n) = .ty n := rfl
theorem vw0_loc {l : Nat} {xs : List T} (h : S[l]? = some (.lst xs)) : vw S (.loc l) = .vl xs := by unfold vw; simp only [h]
theorem vw0_pure {t : T} (h : t.pure = true) : vw S t = t := by cases t <;> first | rfl | (simp [T.pure] at h)
@[simp] theorem tru_bl {b : Bool} : tru (.bl b) = some b := rfl
@[simp] theorem tru_non : tru .non = some false := rfl
@[simp] theorem tru_int {i : Int} : tru (.int i) = some (i != 0) := rfl
@[simp] theorem tru_tup {xs : List T} : tru (.tup xs) = some (!xs.isEmpty) := rfl
@[simp] theorem tru_vl {xs : List T} : tru (.vl xs) = some (!xs.isEmpty) := rfl
@[simp] theorem add_int {i j : Int} : binT .add (.int i) (.int j) = some (.int (i + j)) := rfl
@[simp] theorem sub_int {i j : Int} : binT .sub (.int i) (.int j) = some (.int (i - j)) := rfl
theorem mul_int {i j : Int} (h : bits i + bits j < 900000) : binT .mul (.int i) (.int j) = some (.int (i * j)) := by simp [binT, gd, h]
theorem mod_int {i j : Int} (h : 0 < j) : binT .mod (.int i) (.int j) = some (.int (i % j)) := by simp [binT, gd, h]
theorem fdiv_int {i j : Int} (h : 0 < j) (hb : bits j < 9000) : binT .fdiv (.int i) (.int j) = some (.int (i / j)) := by simp [binT, gd, h, hb]
theorem pow_int {i j : Int} (h : 0 ≤ j) (hb : bits i * j.toNat < 900000) : binT .pow (.int i) (.int j) = some (.int (i ^ j.toNat)) := by simp [binT, gd, h, hb]
theorem add_str {x y : Str} (h : x.length + y.length ≤ lim) : binT .add (.str x) (.str y) = some (.str (x ++ y)) := by simp [binT, gd, h]
theorem add_tup {x y : List T} (h : x.length + y.length ≤ lim) : binT .add (.tup x) (.tup y) = some (.tup (x ++ y)) := by simp [binT, gd, h]
theorem add_vl {x y : List T} (h : x.length + y.length ≤ lim) : binT .add (.vl x) (.vl y) = some (.vl (x ++ y)) := by simp [binT, gd, h]
@[simp] theorem lt_int {i j : Int} : cmpT .lt (.int i) (.int j) = some (decide (i < j)) := rfl
@[simp] theorem le_int {i j : Int} : cmpT .le (.int i) (.int j) = some (decide (i ≤ j)) := rfl
@[simp] theorem gt_int {i j : Int} : cmpT .gt (.int i) (.int j) = some (decide (j < i)) := rfl
@[simp] theorem ge_int {i j : Int} : cmpT .ge (.int i) (.int j) = some (decide (j ≤ i)) := rfl
theorem bits_le {i : Int} {k : Nat} (h : i.natAbs < 2 ^ k) (hk : 0 < k) : bits i ≤ k := by
  unfold bits
  by_cases h0 : i.natAbs = 0
  · rw [h0]; simp; omega
  · have := (Nat.log2_lt h0).mpr h
    omega
@[simp] theorem bif_len_vl {xs : List T} : bifT "len" [.vl xs] = some (.int xs.length) := by rfl
@[simp] theorem bif_len_tup {xs : List T} : bifT "len" [.tup xs] = some (.int xs.length) := by rfl
@[simp] theorem bif_len_scr {xs : List T} : bifT "len" [.scr xs] = some (.int xs.length) := by rfl
theorem bif_len_str {x : Str} (h : x.length ≤ lim) : bifT "len" [.str x] = some (.int x.length) := by
  show gd (decide (x.length ≤ lim)) _ = _
  rw [decide_eq_true h]; rfl
@[simp] theorem bif_abs {i : Int} : bifT "abs" [.int i] = some (.int (if i < 0 then -i else i)) := by rfl
@[simp] theorem bif_max {i j : Int} : bifT "max" [.int i, .int j] = some (.int (if j > i then j else i)) := by rfl
@[simp] theorem bif_min {i j : Int} : bifT "min" [.int i, .int j] = some (.int (if j < i then j else i)) := by rfl
@[simp] theorem bif_all {xs : List T} : bifT "all" [.vl xs] = (blsOf xs).map fun bs => .bl (bs.all id) := by rfl
@[simp] theorem bif_any {xs : List T} : bifT "any" [.vl xs] = (blsOf xs).map fun bs => .bl (bs.any id) := by rfl
@[simp] theorem bif_isi {t : T} {n : String} : bifT "isinstance" [t, .ty n] = (isi t n).map .bl := by rfl
theorem bif_repr {t : T} : bifT "repr" [t] = gd (t.pure && decide (t.dat.shown.length ≤ lim) && t.dat.showable && decide (t.dat.depth ≤ 150)) (.str t.dat.shown) := by rfl
@[simp] theorem bty_int {i : Int} : btyT "int" [.int i] = some (.int i) := by rfl
@[simp] theorem bty_bl {b : Bool} : btyT "int" [.bl b] = some (.int (if b then 1 else 0)) := by rfl
@[simp] theorem bty_tup {xs : List T} : btyT "tuple" [.tup xs] = some (.tup xs) := by rfl
@[simp] theorem bty_tupv {xs : List T} : btyT "tuple" [.vl xs] = some (.tup xs) := by rfl
@[simp] theorem bty_lst {xs : List T} : btyT "list" [.tup xs] = some (.vl xs) := by rfl
@[simp] theorem bty_lstv {xs : List T} : btyT "list" [.vl xs] = some (.vl xs) := by rfl
theorem bty_str {i : Int} (h : bits i < 1900) : btyT "str" [.int i] = some (.str (Str.ofString (toString i))) := by
  show gd (decide (bits i < 1900)) _ = _
  rw [decide_eq_true h]; rfl
@[simp] theorem tgt_nm {i : Nat} {v : T} {ρ : Env} : tgt (.nm i) v ρ S = some (ρ.set i (some v)) := rfl
end
end Px
end
section
set_option linter.all false
set_option maxRecDepth 100000
/-! Px21: the urn of a law: an object of the store that alone changes. -/
namespace Px
open PySem
section
variable {S S' : Sto} {P : T → Sto → Prop}
theorem gc_eq {v : T} (hv : v.bel S.length = true) : Run (gc S v S) P = P v S := by
  have : gc S v S = .ok v S := by
    unfold gc
    rw [if_pos ⟨fun i _ => .inl rfl, Nat.le_refl _⟩, if_pos hv, List.take_length]
  rw [this]; rfl
@[simp] theorem gc_bl {b : Bool} : Run (gc S (.bl b) S) P = P (.bl b) S := gc_eq rfl
@[simp] theorem gc_int {b : Int} : Run (gc S (.int b) S) P = P (.int b) S := gc_eq rfl
@[simp] theorem gc_non : Run (gc S .non S) P = P .non S := gc_eq rfl
@[simp] theorem gc_str {x : Str} : Run (gc S (.str x) S) P = P (.str x) S := gc_eq rfl
@[simp] theorem idx_vl {xs : List T} {i : Int} : idxT (.vl xs) (.int i) = L2.atI xs i := rfl
@[simp] theorem idx_tup {xs : List T} {i : Int} : idxT (.tup xs) (.int i) = L2.atI xs i := rfl
@[simp] theorem idx_scr {xs : List T} {i : Int} : idxT (.scr xs) (.int i) = L2.atI xs i := rfl
theorem at_nat {α : Type} {v : α} {xs : List α} {k : Nat} (h : xs[k]? = some v) : L2.atI xs (k : Int) = some v := L2.atI_nat h
@[simp] theorem at0 {α : Type} {x : α} {xs : List α} : L2.atI (x :: xs) 0 = some x := at_nat (k := 0) rfl
@[simp] theorem at1 {α : Type} {x y : α} {xs : List α} : L2.atI (x :: y :: xs) 1 = some y := at_nat (k := 1) rfl
@[simp] theorem at2 {α : Type} {x y z : α} {xs : List α} : L2.atI (x :: y :: z :: xs) 2 = some z := at_nat (k := 2) rfl
theorem at_lt {α : Type} {xs : List α} {i : Int} (h0 : 0 ≤ i) (h1 : i < xs.length) : ∃ v, L2.atI xs i = some v ∧ xs[i.toNat]? = some v := by
  have hk : i.toNat < xs.length := by omega
  have e : i = (i.toNat : Int) := by omega
  have q := at_nat (List.getElem?_eq_getElem hk)
  rw [← e] at q
  exact ⟨xs[i.toNat], q, List.getElem?_eq_getElem hk⟩
@[simp] theorem mul_gd {i j : Int} : binT .mul (.int i) (.int j) = gd (decide (bits i + bits j < 900000)) (.int (i * j)) := rfl
@[simp] theorem mod_gd {i j : Int} : binT .mod (.int i) (.int j) = gd (decide (0 < j)) (.int (i % j)) := rfl
@[simp] theorem fdiv_gd {i j : Int} : binT .fdiv (.int i) (.int j) = gd (decide (0 < j) && decide (bits j < 9000)) (.int (i / j)) := rfl
@[simp] theorem pow_gd {i j : Int} : binT .pow (.int i) (.int j) = gd (decide (0 ≤ j) && decide (bits i * j.toNat < 900000)) (.int (i ^ j.toNat)) := rfl
@[simp] theorem ex_gd' {α : Type} {b : Bool} {t : α} {P : α → Prop} : (∃ a, gd b t = some a ∧ P a) = (b = true ∧ P t) := ex_gd
@[simp] theorem ix30 : L2.ixN 3 0 = some 0 := by decide
@[simp] theorem ix31 : L2.ixN 3 1 = some 1 := by decide
@[simp] theorem ix32 : L2.ixN 3 2 = some 2 := by decide
theorem bits_lt {i : Int} (k : Nat) (h : i.natAbs < 2 ^ k) (hk : 0 < k := by decide) : bits i ≤ k := bits_le h hk
theorem lt_bits (i : Int) : i.natAbs < 2 ^ bits i := by
  unfold bits
  exact Nat.lt_log2_self
theorem bits_pos (i : Int) : 0 < bits i := Nat.succ_pos _
theorem bits_mul (i j : Int) : bits (i * j) ≤ bits i + bits j := by
  refine bits_le ?_ (by have := bits_pos i; omega)
  rw [Int.natAbs_mul, Nat.pow_add]
  exact Nat.mul_lt_mul'' (lt_bits i) (lt_bits j)
theorem bits_add (i j : Int) : bits (i + j) ≤ bits i + bits j := by
  refine bits_le ?_ (by have := bits_pos i; omega)
  have h1 := lt_bits i
  have h2 := lt_bits j
  have h3 : (i + j).natAbs ≤ i.natAbs + j.natAbs := Int.natAbs_add_le i j
  have e1 : 2 ≤ 2 ^ bits i := by
    have := Nat.pow_le_pow_right (show 0 < 2 by decide) (bits_pos i)
    simpa using this
  have e2 : 2 ≤ 2 ^ bits j := by
    have := Nat.pow_le_pow_right (show 0 < 2 by decide) (bits_pos j)
    simpa using this
  rw [Nat.pow_add]
  have : 2 ^ bits i + 2 ^ bits j ≤ 2 ^ bits i * 2 ^ bits j := by
    generalize 2 ^ bits i = x at *
    generalize 2 ^ bits j = y at *
    obtain ⟨x', rfl⟩ : ∃ x', x = x' + 2 := ⟨x - 2, by omega⟩
    obtain ⟨y', rfl⟩ : ∃ y', y = y' + 2 := ⟨y - 2, by omega⟩
    have : (x' + 2) * (y' + 2) = x' * y' + 2 * x' + 2 * y' + 4 := by rw [Nat.add_mul, Nat.mul_add, Nat.mul_add]; omega
    omega
  omega
def Ur (l B : Nat) (S : Sto) : Prop := ∃ a b c : Int, S[l]? = some (.lst [.int a, .int b, .int c]) ∧ 0 ≤ a ∧ 0 ≤ b ∧ b < 2305843009213693952 ∧ 0 ≤ c ∧ c ≤ B
def Only (l : Nat) (S S' : Sto) : Prop := S'.length = S.length ∧ ∀ i, i ≠ l → S'[i]? = S[i]?
theorem Only.refl {l : Nat} : Only l S S := ⟨rfl, fun _ _ => rfl⟩
theorem Only.trans {l : Nat} {S2 : Sto} (h : Only l S S') (h' : Only l S' S2) : Only l S S2 := ⟨h'.1.trans h.1, fun i n => (h'.2 i n).trans (h.2 i n)⟩
theorem Only.set {l : Nat} {o : Ob} : Only l S (S.set l o) := ⟨List.length_set, fun i n => by rw [List.getElem?_set_ne (fun z => n z.symm)]⟩
theorem Ur.mono {l B B' : Nat} (h : Ur l B S) (i : B ≤ B') : Ur l B' S := by
  obtain ⟨a, b, c, h1, h2, h3, h4, h5, h6⟩ := h
  exact ⟨a, b, c, h1, h2, h3, h4, h5, by omega⟩
theorem Ur.lt {l B : Nat} (h : Ur l B S) : l < S.length := by
  obtain ⟨a, b, c, h1, _⟩ := h
  exact (List.getElem?_eq_some_iff.mp h1).1
theorem ur_set {l B : Nat} {a b c : Int} (hl : l < S.length) (h2 : 0 ≤ a) (h3 : 0 ≤ b) (h4 : b < 2305843009213693952) (h5 : 0 ≤ c) (h6 : c ≤ B) : Ur l B (S.set l (.lst [.int a, .int b, .int c])) :=
  ⟨a, b, c, by rw [List.getElem?_set_self hl], h2, h3, h4, h5, h6⟩
theorem gc_only {l B : Nat} {v : T} (hv : v.bel S.length = true) (ho : Only l S S') (hu : Ur l B S') (h : P v S') : Run (gc S v S') P := by
  refine gc_run (Nat.le_of_eq ho.1.symm) (fun i hi => ?_) hv (by rw [← ho.1, List.take_length]; exact h)
  by_cases e : i = l
  · subst e
    obtain ⟨a, b, c, h1, _⟩ := hu
    exact .inr ⟨_, h1, rfl⟩
  · exact .inl (ho.2 i e)
theorem run_seq {C : Cfg} {s : Sm} {ss : Sms} {ρ ρ' : Env} {S S1 : Sto} {P : Fl × Env → Sto → Prop} (h : Run (exec C s ρ S) fun r S' => r = (.nx, ρ') ∧ S' = S1) (k : Run (execs C ss ρ' S1) P) : Run (execs C (.cons s ss) ρ S) P := by
  rw [rxs_cons]
  refine h.mono fun r S' ⟨e1, e2⟩ => ?_
  subst e1 e2
  exact k
theorem run_asg {C : Cfg} {i : Nat} {e : Ex} {ss : Sms} {ρ : Env} {S : Sto} {P : Fl × Env → Sto → Prop} (h : Run (ev C e ρ S) fun v S' => Run (execs C ss (ρ.set i (some v)) S') P) : Run (execs C (.cons (.asg (.nm i) e) ss) ρ S) P := by
  rw [rxs_cons, rx_asg]
  exact h.mono fun v S' q => ⟨_, rfl, q⟩
theorem run_ret {C : Cfg} {e : Ex} {ss : Sms} {ρ : Env} {S : Sto} {P : Fl × Env → Sto → Prop} (h : Run (ev C e ρ S) fun v S' => P (.rt v, ρ) S') : Run (execs C (.cons (.ret e) ss) ρ S) P := by
  rw [rxs_cons, rx_ret]
  exact h
theorem run_if {C : Cfg} {c : Ex} {a b : Sms} {ss : Sms} {ρ : Env} {S : Sto} {P : Fl × Env → Sto → Prop} (h : Run (ev C c ρ S) fun x S' => ∃ k, tru (vw S' x) = some k ∧ (k = true → Run (execs C a ρ S') (Nx C ss P)) ∧ (k = false → Run (execs C b ρ S') (Nx C ss P))) : Run (execs C (.cons (.ife c a b) ss) ρ S) P := by
  rw [rxs_cons, rx_ife]
  refine h.mono fun x S' ⟨k, e, h1, h2⟩ => ⟨k, e, ?_⟩
  cases k with
  | true => exact h1 rfl
  | false => exact h2 rfl
theorem run_v {C : Cfg} {e : Ex} {ρ : Env} {S : Sto} {P : T → Sto → Prop} (v : T) (h : Run (ev C e ρ S) fun x S' => x = v ∧ S' = S) (k : P v S) : Run (ev C e ρ S) P := h.mono fun x S' ⟨e1, e2⟩ => by subst e1 e2; exact k
@[simp] theorem fin_rt' {v : T} {ρ : Env} : Fin false S P (.rt v, ρ) S' = Run (gc S v S') P := propext fin_rt
@[simp] theorem fin_nx' {ρ : Env} : Fin false S P (.nx, ρ) S' = Run (gc S .non S') P := propext fin_nx
@[simp] theorem finK_rt' {v : T} {ρ : Env} : Fin true S P (.rt v, ρ) S' = P v S' := propext finK_rt
end
end Px
end
section
set_option linter.all false
set_option maxRecDepth 100000
/-! Px22: values of a kind that can be shown and compared. -/
namespace Px
open PySem

mutual
/-- data of ints not beyond 10 ** 30 + k, of plain texts not longer than 60 + k -/
def T.neat (k : Nat) : T → Bool
  | .non | .bl _ => true
  | .int i => decide (i.natAbs ≤ 1000000000000000000000000000000 + k)
  | .str x => x.cps.toList.all (· < 128) && decide (x.cps.toList.length ≤ 60 + k)
  | .tup xs => T.neatL k xs
  | .vl xs => T.neatL k xs
  | .vd ks vs => T.neatL k ks && T.neatL k vs && decide (ks.length = vs.length)
  | _ => false
def T.neatL (k : Nat) : List T → Bool
  | [] => true
  | x :: xs => T.neat k x && T.neatL k xs
end
theorem neatL_mem {k : Nat} : ∀ {xs : List T}, T.neatL k xs = true ↔ ∀ x ∈ xs, x.neat k = true
  | [] => by simp [T.neatL]
  | x :: xs => by simp [T.neatL, neatL_mem (xs := xs)]
mutual
theorem neat_mono {k k' : Nat} (hk : k ≤ k') : ∀ {t : T}, t.neat k = true → t.neat k' = true
  | .non, _ => rfl
  | .bl _, _ => rfl
  | .int _, h => by
    simp only [T.neat, decide_eq_true_eq] at h ⊢
    omega
  | .str _, h => by
    simp only [T.neat, Bool.and_eq_true, decide_eq_true_eq] at h ⊢
    exact ⟨h.1, by omega⟩
  | .tup xs, h => by
    simp only [T.neat] at h ⊢
    exact neatL_mono hk h
  | .vl xs, h => by
    simp only [T.neat] at h ⊢
    exact neatL_mono hk h
  | .vd ks vs, h => by
    simp only [T.neat, Bool.and_eq_true] at h ⊢
    exact ⟨⟨neatL_mono hk h.1.1, neatL_mono hk h.1.2⟩, h.2⟩
theorem neatL_mono {k k' : Nat} (hk : k ≤ k') : ∀ {xs : List T}, T.neatL k xs = true → T.neatL k' xs = true
  | [], _ => rfl
  | x :: xs, h => by
    simp only [T.neatL, Bool.and_eq_true] at h ⊢
    exact ⟨neat_mono hk h.1, neatL_mono hk h.2⟩
end
mutual
theorem neat_pure {k : Nat} : ∀ {t : T}, t.neat k = true → t.pure = true
  | .non, _ => rfl
  | .bl _, _ => rfl
  | .int _, _ => rfl
  | .str _, _ => rfl
  | .tup xs, h => neatL_pure (xs := xs) h
  | .vl xs, h => neatL_pure (xs := xs) h
  | .vd ks vs, h => by
    simp only [T.neat, Bool.and_eq_true] at h
    simp only [T.pure, Bool.and_eq_true]
    exact ⟨neatL_pure h.1.1, neatL_pure h.1.2⟩
theorem neatL_pure {k : Nat} : ∀ {xs : List T}, T.neatL k xs = true → T.pureL xs = true
  | [], _ => rfl
  | x :: xs, h => by
    simp only [T.neatL, Bool.and_eq_true] at h
    simp only [T.pureL, Bool.and_eq_true]
    exact ⟨neat_pure h.1, neatL_pure h.2⟩
end
mutual
theorem pure_bel {n : Nat} : ∀ {t : T}, t.pure = true → t.bel n = true
  | .non, _ => rfl
  | .bl _, _ => rfl
  | .int _, _ => rfl
  | .str _, _ => rfl
  | .tup xs, h => pureL_bel (xs := xs) h
  | .vl xs, h => pureL_bel (xs := xs) h
  | .vd ks vs, h => by
    simp only [T.pure, Bool.and_eq_true] at h
    simp only [T.bel, Bool.and_eq_true]
    exact ⟨pureL_bel h.1, pureL_bel h.2⟩
theorem pureL_bel {n : Nat} : ∀ {xs : List T}, T.pureL xs = true → T.belL n xs = true
  | [], _ => rfl
  | x :: xs, h => by
    simp only [T.pureL, Bool.and_eq_true] at h
    simp only [T.belL, Bool.and_eq_true]
    exact ⟨pure_bel h.1, pureL_bel h.2⟩
end
theorem log2_le {n k : Nat} (h : n < 2 ^ k) (hk : 0 < k) : n.log2 < k := by
  by_cases h0 : n = 0
  · subst h0; simpa using hk
  · exact (Nat.log2_lt h0).mpr h
theorem int_log {i : Int} {k : Nat} (h : i.natAbs ≤ 1000000000000000000000000000000 + k) (hk : k ≤ 1000) : i.natAbs.log2 < 101 :=
  log2_le (Nat.lt_of_le_of_lt h (by
    have : (1000000000000000000000000000000 + 1000 : Nat) < 2 ^ 101 := by decide
    omega)) (by decide)
theorem showKv : ∀ {xs ys : List PyData}, PyData.showableAll xs = true → PyData.showableAll ys = true → PyData.showableKv (xs.zip ys) = true
  | [], _, _, _ => by simp [PyData.showableKv]
  | _ :: _, [], _, _ => by simp [PyData.showableKv]
  | x :: xs, y :: ys, h, g => by
    simp only [PyData.showableAll, Bool.and_eq_true] at h g
    simp only [List.zip_cons_cons, PyData.showableKv, Bool.and_eq_true]
    exact ⟨⟨h.1, g.1⟩, showKv h.2 g.2⟩
mutual
theorem neat_show {k : Nat} (hk : k ≤ 1000) : ∀ {t : T}, t.neat k = true → t.dat.showable = true
  | .non, _ => by simp [T.dat, PyData.showable]
  | .bl _, _ => by simp [T.dat, PyData.showable]
  | .int i, h => by
    simp only [T.neat, decide_eq_true_eq] at h
    have := int_log h hk
    simp only [T.dat, PyData.showable, decide_eq_true_eq]
    omega
  | .str _, _ => by simp [T.dat, PyData.showable]
  | .tup xs, h => by
    simp only [T.neat] at h
    simp only [T.dat, PyData.showable]
    exact neatL_show hk h
  | .vl xs, h => by
    simp only [T.neat] at h
    simp only [T.dat, PyData.showable]
    exact neatL_show hk h
  | .vd ks vs, h => by
    simp only [T.neat, Bool.and_eq_true] at h
    simp only [T.dat, PyData.showable]
    exact showKv (neatL_show hk h.1.1) (neatL_show hk h.1.2)
theorem neatL_show {k : Nat} (hk : k ≤ 1000) : ∀ {xs : List T}, T.neatL k xs = true → PyData.showableAll (T.datL xs) = true
  | [], _ => by simp [T.datL, PyData.showableAll]
  | x :: xs, h => by
    simp only [T.neatL, Bool.and_eq_true] at h
    simp only [T.datL, PyData.showableAll, Bool.and_eq_true]
    exact ⟨neat_show hk h.1, neatL_show hk h.2⟩
end

/-! ### how long the shown text is -/
mutual
def plainS : PyData → Bool
  | .str x => x.cps.toList.all (· < 4294967296)
  | .list xs => plainSL xs
  | .tuple xs => plainSL xs
  | .dict kvs => plainSK kvs
  | .none => true
  | .bool _ => true
  | .int _ => true
def plainSL : List PyData → Bool
  | [] => true
  | x :: xs => plainS x && plainSL xs
def plainSK : List (PyData × PyData) → Bool
  | [] => true
  | (a, b) :: r => plainS a && plainS b && plainSK r
end
theorem plainKv : ∀ {xs ys : List PyData}, plainSL xs = true → plainSL ys = true → plainSK (xs.zip ys) = true
  | [], _, _, _ => by simp [plainSK]
  | _ :: _, [], _, _ => by simp [plainSK]
  | x :: xs, y :: ys, h, g => by
    simp only [plainSL, Bool.and_eq_true] at h g
    simp only [List.zip_cons_cons, plainSK, Bool.and_eq_true]
    exact ⟨⟨h.1, g.1⟩, plainKv h.2 g.2⟩
mutual
theorem neat_plain {k : Nat} : ∀ {t : T}, t.neat k = true → plainS t.dat = true
  | .non, _ => by simp [T.dat, plainS]
  | .bl _, _ => by simp [T.dat, plainS]
  | .int i, h => by simp [T.dat, plainS]
  | .str x, h => by
    simp only [T.neat, Bool.and_eq_true, List.all_eq_true, decide_eq_true_eq] at h
    simp only [T.dat, plainS, List.all_eq_true, decide_eq_true_eq]
    intro c hc
    have := h.1 c hc
    omega
  | .tup xs, h => by
    simp only [T.neat] at h
    simp only [T.dat, plainS]
    exact neatL_plain h
  | .vl xs, h => by
    simp only [T.neat] at h
    simp only [T.dat, plainS]
    exact neatL_plain h
  | .vd ks vs, h => by
    simp only [T.neat, Bool.and_eq_true] at h
    simp only [T.dat, plainS]
    exact plainKv (neatL_plain h.1.1) (neatL_plain h.1.2)
theorem neatL_plain {k : Nat} : ∀ {xs : List T}, T.neatL k xs = true → plainSL (T.datL xs) = true
  | [], _ => by simp [T.datL, plainSL]
  | x :: xs, h => by
    simp only [T.neatL, Bool.and_eq_true] at h
    simp only [T.datL, plainSL, Bool.and_eq_true]
    exact ⟨neat_plain h.1, neatL_plain h.2⟩
end
theorem textFrom_up : ∀ (ts : List Str) (k : Nat) (acc : Str), (textFrom k acc ts).length ≤ acc.length + piled ts
  | [], k, acc => by show acc.length ≤ _; omega
  | t :: ts, k, acc => by
    have ih := textFrom_up ts (k + 1) (acc ++ (if k > 0 then ", " else "" : String) ++ t)
    have e : (acc ++ (if k > 0 then ", " else "" : String) ++ t).length = acc.length + (if k > 0 then 2 else 0) + t.length := by
      rw [strLen_append, strLen_append]
      split <;> rfl
    rw [e] at ih
    show (textFrom (k + 1) _ ts).length ≤ _
    rw [piled_cons]
    have : (if k > 0 then 2 else 0 : Nat) ≤ 2 := by split <;> omega
    omega
theorem join_up (ts : List Str) : (Str.join ", " ts).length ≤ piled ts := by
  by_cases h : ts = []
  · subst h; exact Nat.zero_le _
  · have := join_length_add ts h
    omega
theorem list_up (ts : List Str) : (listText ts).length ≤ piled ts + 2 := by
  unfold listText
  rw [strLen_append]
  have := textFrom_up ts 0 "["
  have e1 : ((("[" : String) : Str)).length = 1 := rfl
  have e2 : ((("]" : String) : Str)).length = 1 := rfl
  omega
theorem tuple_up (ts : List Str) : (tupleText ts).length ≤ piled ts + 3 := by
  unfold tupleText
  rw [strLen_append, strLen_append]
  have := join_up ts
  have e1 : ((("(" : String) : Str)).length = 1 := rfl
  have e2 : (((if ts.length == 1 then ",)" else ")" : String) : Str)).length ≤ 2 := by split <;> decide
  omega
theorem dict_up (ts : List Str) : (dictText ts).length ≤ piled ts + 2 := by
  unfold dictText
  rw [strLen_append, strLen_append]
  have := join_up ts
  have e1 : ((("{" : String) : Str)).length = 1 := rfl
  have e2 : ((("}" : String) : Str)).length = 1 := rfl
  omega
mutual
theorem shown_up : ∀ (d : PyData), plainS d = true → d.shown.length ≤ 10 * d.weight + 5
  | .none, _ => by
    simp only [PyData.shown]
    have : ((("None" : String) : Str)).length = 4 := rfl
    omega
  | .bool b, _ => by
    simp only [PyData.shown]
    have : ((if b = true then Str.ofString "True" else Str.ofString "False")).length ≤ 5 := by cases b <;> decide
    omega
  | .int i, _ => by
    simp only [PyData.shown, PyData.weight]
    have e := int_text_length_le (a := i) (k := i.natAbs.log2 + 1) (Nat.succ_pos _) (Nat.lt_succ_self _)
    rw [ofString_length]
    split
    · rename_i h
      have h : i = 0 := by simpa using h
      subst h
      simp at e
      have : (toString (0 : Int)).length = 1 := by decide
      omega
    · omega
  | .str x, h => by
    simp only [plainS, List.all_eq_true, decide_eq_true_eq] at h
    simp only [PyData.shown, PyData.weight]
    have := StrLaws.reprText_len x (fun c hc => by have := h c hc; omega)
    have e : x.length = x.cps.size := rfl
    omega
  | .list xs, h => by
    simp only [plainS] at h
    simp only [PyData.shown, PyData.weight]
    have := list_up (PyData.shownAll xs)
    have := shownL_up xs h
    omega
  | .tuple xs, h => by
    simp only [plainS] at h
    simp only [PyData.shown, PyData.weight]
    have := tuple_up (PyData.shownAll xs)
    have := shownL_up xs h
    omega
  | .dict kvs, h => by
    simp only [plainS] at h
    simp only [PyData.shown, PyData.weight]
    have := dict_up (PyData.shownKv kvs)
    have := shownK_up kvs h
    omega
theorem shownL_up : ∀ (xs : List PyData), plainSL xs = true → piled (PyData.shownAll xs) ≤ 10 * PyData.weightAll xs
  | [], _ => by simp [PyData.shownAll, piled_nil]
  | x :: xs, h => by
    simp only [plainSL, Bool.and_eq_true] at h
    simp only [PyData.shownAll, PyData.weightAll, piled_cons]
    have := shown_up x h.1
    have := shownL_up xs h.2
    omega
theorem shownK_up : ∀ (kvs : List (PyData × PyData)), plainSK kvs = true → piled (PyData.shownKv kvs) ≤ 10 * PyData.weightKv kvs
  | [], _ => by simp [PyData.shownKv, piled_nil]
  | (a, b) :: r, h => by
    simp only [plainSK, Bool.and_eq_true] at h
    simp only [PyData.shownKv, PyData.weightKv, piled_cons]
    have := shown_up a h.1.1
    have := shown_up b h.1.2
    have := shownK_up r h.2
    have e : (PyData.shown a ++ ((": " : String) : Str) ++ PyData.shown b).length = a.shown.length + 2 + b.shown.length := by
      rw [strLen_append, strLen_append]; rfl
    omega
end
theorem repr_neat {k : Nat} {t : T} (hn : t.neat k = true) (hk : k ≤ 1000) (hd : t.dat.depth ≤ 150) (hw : t.dat.weight ≤ 1000000) : bifT "repr" [t] = some (.str t.dat.shown) := by
  rw [bif_repr]
  have h1 := shown_up t.dat (neat_plain hn)
  have h2 : t.dat.shown.length ≤ lim := by unfold lim; omega
  rw [neat_pure hn, neat_show hk hn, decide_eq_true h2, decide_eq_true hd]
  rfl
end Px
end
section
set_option linter.all false
set_option maxRecDepth 100000
/-! Px23: loops and comprehensions by what stays true. -/
namespace Px
open PySem
/-- behind a turn -/
def Turn (l : Option Nat) (S0 : Sto) (I : Env → Sto → Prop) (P : Fl × Env → Sto → Prop) : Fl × Env → Sto → Prop := fun r S1 => match r.1 with
  | .nx => stays l S0 S1 ∧ I r.2 S1
  | .ct => stays l S0 S1 ∧ I r.2 S1
  | .bk => P (.nx, r.2) S1
  | .rt v => P (.rt v, r.2) S1
@[simp] theorem turn_nx {l S0 I P ρ S} : Turn l S0 I P (.nx, ρ) S = (stays l S0 S ∧ I ρ S) := rfl
@[simp] theorem turn_ct {l S0 I P ρ S} : Turn l S0 I P (.ct, ρ) S = (stays l S0 S ∧ I ρ S) := rfl
@[simp] theorem turn_bk {l S0 I P ρ S} : Turn l S0 I P (.bk, ρ) S = P (.nx, ρ) S := rfl
@[simp] theorem turn_rt {l S0 I P ρ S v} : Turn l S0 I P (.rt v, ρ) S = P (.rt v, ρ) S := rfl
@[simp] theorem stays_none {S0 S : Sto} : stays none S0 S = True := rfl
theorem run_forL {l : Option Nat} {S0 : Sto} {body : T → Env → Sto → R (Fl × Env)} {P : Fl × Env → Sto → Prop} (I : Nat → Env → Sto → Prop) : ∀ (xs : List T) (n : Nat) (ρ : Env) (S : Sto), I n ρ S →
    (∀ i x ρ S, xs[i]? = some x → I (n + i) ρ S → Run (body x ρ S) (Turn l S0 (I (n + i + 1)) P)) → (∀ ρ S, I (n + xs.length) ρ S → P (.nx, ρ) S) → Run (forL l S0 body xs ρ S) P
  | [], n, ρ, S, h0, _, fin => fin ρ S h0
  | x :: xs, n, ρ, S, h0, st, fin => by
    unfold forL
    rw [run_bind]
    refine (st 0 x ρ S rfl h0).mono fun r S1 q => ?_
    obtain ⟨f, ρ1⟩ := r
    have rest : ∀ ρ1 S1, I (n + 1) ρ1 S1 → Run (forL l S0 body xs ρ1 S1) P := fun ρ1 S1 h => run_forL I xs (n + 1) ρ1 S1 h (fun i y ρ S hy hi => by
      have := st (i + 1) y ρ S hy (by rw [show n + (i + 1) = n + 1 + i by omega]; exact hi)
      rw [show n + (i + 1) + 1 = n + 1 + i + 1 by omega] at this
      exact this) (fun ρ S h => fin ρ S (by rw [List.length_cons, show n + (xs.length + 1) = n + 1 + xs.length by omega]; exact h))
    cases f with
    | nx => simp only [turn_nx] at q ⊢; rw [if_pos q.1]; exact rest _ _ q.2
    | ct => simp only [turn_ct] at q ⊢; rw [if_pos q.1]; exact rest _ _ q.2
    | bk => exact q
    | rt v => exact q
theorem run_for {C : Cfg} {g : Tg} {it : It} {b : Sms} {ss : Sms} {ρ : Env} {S : Sto} {P : Fl × Env → Sto → Prop} (h : Run (evi C it ρ S) fun xl S1 => Run (forL xl.2 S1 (fun x ρ S => (R.opt (tgt g x ρ S) S).bind fun ρ S => execs C b ρ S) xl.1 ρ S1) (Nx C ss P)) :
    Run (execs C (.cons (.for g it b) ss) ρ S) P := by
  rw [rxs_cons, rx_for]
  exact h
theorem run_compL {l : Option Nat} {S0 : Sto} {body : T → Sto → R (Option T)} {P : List T → Sto → Prop} (I : Nat → List T → Sto → Prop) : ∀ (xs : List T) (n : Nat) (acc : List T) (S : Sto), I n acc S →
    (∀ i x acc S, xs[i]? = some x → I (n + i) acc S → Run (body x S) fun r S1 => stays l S0 S1 ∧ I (n + i + 1) (match r with | some v => acc ++ [v] | none => acc) S1) → (∀ acc S, I (n + xs.length) acc S → acc.length ≤ lim ∧ P acc S) → Run (compL l S0 body xs acc S) P
  | [], n, acc, S, h0, _, fin => by
    unfold compL
    have := fin acc S h0
    rw [if_pos this.1]
    exact this.2
  | x :: xs, n, acc, S, h0, st, fin => by
    unfold compL
    rw [run_bind]
    refine (st 0 x acc S rfl h0).mono fun r S1 ⟨q1, q2⟩ => ?_
    rw [if_pos q1]
    exact run_compL I xs (n + 1) _ S1 q2 (fun i y acc S hy hi => by
      have := st (i + 1) y acc S hy (by rw [show n + (i + 1) = n + 1 + i by omega]; exact hi)
      rw [show n + (i + 1) + 1 = n + 1 + i + 1 by omega] at this
      exact this) (fun acc S h => fin acc S (by rw [List.length_cons, show n + (xs.length + 1) = n + 1 + xs.length by omega]; exact h))
/-- a range below a small number -/
@[simp] theorem rangeT_1 {n : Int} : rangeT [.int n] = gd (decide (-4611686018427387904 ≤ n) && decide (n < 4611686018427387904)) (rng 0 n) := rfl
@[simp] theorem rangeT_2 {a b : Int} : rangeT [.int a, .int b] = gd (decide (-4611686018427387904 ≤ a) && decide (a < 4611686018427387904) && decide (-4611686018427387904 ≤ b) && decide (b < 4611686018427387904)) (rng a b) := rfl
theorem rng_len {a b : Int} : (rng a b).length = (b - a).toNat := by simp [rng]
theorem rng_at {a b : Int} {i : Nat} {x : T} (h : (rng a b)[i]? = some x) : x = .int (a + i) ∧ i < (b - a).toNat := by
  have hi : i < (rng a b).length := (List.getElem?_eq_some_iff.mp h).1
  rw [rng_len] at hi
  refine ⟨?_, hi⟩
  simp [rng, hi] at h
  exact h.symm
end Px
end
section
set_option linter.all false
set_option maxRecDepth 100000
/-! Px24: values by kind, depth and weight. -/
namespace Px
open PySem
variable {S : Sto}
@[simp] theorem un_int {i : Int} : unN (.int i) = some (.int (-i)) := rfl
@[simp] theorem add_vl_gd {x y : List T} : binT .add (.vl x) (.vl y) = gd (decide (x.length + y.length ≤ lim)) (.vl (x ++ y)) := rfl
@[simp] theorem add_tup_gd {x y : List T} : binT .add (.tup x) (.tup y) = gd (decide (x.length + y.length ≤ lim)) (.tup (x ++ y)) := rfl
@[simp] theorem add_str_gd {x y : Str} : binT .add (.str x) (.str y) = gd (decide (x.length + y.length ≤ lim)) (.str (x ++ y)) := rfl
@[simp] theorem add_bl_int {b : Bool} {j : Int} : binT .add (.bl b) (.int j) = some (.int ((if b = true then (1 : Int) else 0) + j)) := rfl
@[simp] theorem sub_bl_int {b : Bool} {j : Int} : binT .sub (.bl b) (.int j) = some (.int ((if b = true then (1 : Int) else 0) - j)) := rfl
@[simp] theorem bty_sbl {b : Bool} : btyT "str" [.bl b] = some (.str (if b = true then Str.ofString "True" else Str.ofString "False")) := by rfl
@[simp] theorem slc_tup {xs : List T} {lo hi : Option Int} : slcT (.tup xs) lo hi = some (.tup (cut xs lo hi)) := rfl
@[simp] theorem slc_vl {xs : List T} {lo hi : Option Int} : slcT (.vl xs) lo hi = some (.vl (cut xs lo hi)) := rfl
@[simp] theorem rev_tup {xs : List T} : revT (.tup xs) = some (.tup xs.reverse) := rfl
@[simp] theorem rev_vl {xs : List T} : revT (.vl xs) = some (.vl xs.reverse) := rfl
@[simp] theorem its_tup {xs : List T} : itemsT (.tup xs) = some xs := rfl
@[simp] theorem its_vl {xs : List T} : itemsT (.vl xs) = some xs := rfl
theorem belL_mem {m : Nat} : ∀ {xs : List T}, T.belL m xs = true → ∀ x ∈ xs, x.bel m = true
  | [], _, x, hx => by simp at hx
  | y :: xs, h, x, hx => by
    simp only [T.belL, Bool.and_eq_true] at h
    rcases List.mem_cons.mp hx with rfl | hx
    · exact h.1
    · exact belL_mem h.2 x hx
/-- a value of this kind, not deeper than d, not heavier than w -/
structure V (k d w : Nat) (t : T) : Prop where
  n : t.neat k = true
  d : t.dat.depth ≤ d
  w : t.dat.weight ≤ w
structure Vs (k d w : Nat) (ts : List T) : Prop where
  n : T.neatL k ts = true
  d : PyData.depthAll (T.datL ts) ≤ d
  w : PyData.weightAll (T.datL ts) ≤ w
theorem V.mono {k d w k' d' w' : Nat} {t : T} (h : V k d w t) (hk : k ≤ k') (hd : d ≤ d') (hw : w ≤ w') : V k' d' w' t := by
  refine ⟨?_, Nat.le_trans h.d hd, Nat.le_trans h.w hw⟩
  exact neat_mono hk h.n
theorem V.pure {k d w : Nat} {t : T} (h : V k d w t) : t.pure = true := neat_pure h.n
theorem V.vw {k d w : Nat} {t : T} (h : V k d w t) : vw S t = t := vw0_pure h.pure
theorem V.bel {k d w m : Nat} {t : T} (h : V k d w t) : t.bel m = true := pure_bel h.pure
theorem Vs.nil {k d w : Nat} : Vs k d w [] := ⟨rfl, by simp [T.datL, PyData.depthAll], by simp [T.datL, PyData.weightAll]⟩
theorem Vs.cons {k d w w' : Nat} {t : T} {ts : List T} (h : V k d w t) (q : Vs k d w' ts) : Vs k d (w + w' + 1) (t :: ts) := by
  refine ⟨by simp only [T.neatL, Bool.and_eq_true]; exact ⟨h.n, q.n⟩, ?_, ?_⟩
  · simp only [T.datL, PyData.depthAll]
    have := h.d
    have := q.d
    omega
  · simp only [T.datL, PyData.weightAll]
    have := h.w
    have := q.w
    omega
theorem Vs.mono {k d w k' d' w' : Nat} {t : List T} (h : Vs k d w t) (hk : k ≤ k') (hd : d ≤ d') (hw : w ≤ w') : Vs k' d' w' t := by
  refine ⟨neatL_mono hk h.n, Nat.le_trans h.d hd, Nat.le_trans h.w hw⟩
theorem Vs.tup {k d w : Nat} {ts : List T} (h : Vs k d w ts) : V k (d + 1) w (.tup ts) := ⟨h.n, by simp only [T.dat, PyData.depth]; have := h.d; omega, by simp only [T.dat, PyData.weight]; exact h.w⟩
theorem Vs.vl {k d w : Nat} {ts : List T} (h : Vs k d w ts) : V k (d + 1) w (.vl ts) := ⟨h.n, by simp only [T.dat, PyData.depth]; have := h.d; omega, by simp only [T.dat, PyData.weight]; exact h.w⟩
theorem V.tup {k d w : Nat} {ts : List T} (h : V k (d + 1) w (.tup ts)) : Vs k d w ts := ⟨h.n, by have := h.d; simp only [T.dat, PyData.depth] at this; omega, by have := h.w; simpa only [T.dat, PyData.weight] using this⟩
theorem V.vd1 {k d w w' : Nat} {a b : T} (ha : V k d w a) (hb : V k d w' b) : V k (d + 1) (w + w' + 2) (.vd [a] [b]) := by
  refine ⟨?_, ?_, ?_⟩
  · simp [T.neat, T.neatL, ha.n, hb.n]
  · simp only [T.dat, T.datL, List.zip_cons_cons, List.zip_nil_left, PyData.depth, PyData.depthKv]
    have := ha.d
    have := hb.d
    omega
  · simp only [T.dat, T.datL, List.zip_cons_cons, List.zip_nil_left, PyData.weight, PyData.weightKv]
    have := ha.w
    have := hb.w
    omega
theorem Vs.mem {k d w : Nat} : ∀ {ts : List T}, Vs k d w ts → ∀ t ∈ ts, V k d w t
  | [], _, t, ht => by simp at ht
  | x :: xs, h, t, ht => by
    have hn := h.n
    have hd := h.d
    have hw := h.w
    simp only [T.neatL, Bool.and_eq_true] at hn
    simp only [T.datL, PyData.depthAll] at hd
    simp only [T.datL, PyData.weightAll] at hw
    rcases List.mem_cons.mp ht with rfl | ht
    · exact ⟨hn.1, by omega, by omega⟩
    · exact Vs.mem ⟨hn.2, by omega, by omega⟩ t ht
theorem Vs.app {k d w w' : Nat} : ∀ {ts us : List T}, Vs k d w ts → Vs k d w' us → Vs k d (w + w') (ts ++ us)
  | [], us, _, q => q.mono (Nat.le_refl _) (Nat.le_refl _) (by omega)
  | x :: xs, us, h, q => by
    have hn := h.n
    have hd := h.d
    have hw := h.w
    simp only [T.neatL, Bool.and_eq_true] at hn
    simp only [T.datL, PyData.depthAll] at hd
    simp only [T.datL, PyData.weightAll] at hw
    have ih := Vs.app (d := d) (ts := xs) (us := us) (w := PyData.weightAll (T.datL xs)) ⟨hn.2, by omega, Nat.le_refl _⟩ q
    exact (Vs.cons (t := x) (w := x.dat.weight) ⟨hn.1, by omega, Nat.le_refl _⟩ ih).mono (Nat.le_refl _) (Nat.le_refl _) (by omega)
theorem Vs.drop {k d w : Nat} : ∀ (i : Nat) {ts : List T}, Vs k d w ts → Vs k d w (ts.drop i)
  | 0, ts, h => by simpa using h
  | i + 1, [], h => by simpa using h
  | i + 1, x :: xs, h => by
    have hn := h.n
    have hd := h.d
    have hw := h.w
    simp only [T.neatL, Bool.and_eq_true] at hn
    simp only [T.datL, PyData.depthAll] at hd
    simp only [T.datL, PyData.weightAll] at hw
    exact Vs.drop i (ts := xs) ⟨hn.2, by omega, by omega⟩
theorem Vs.take {k d w : Nat} : ∀ (i : Nat) {ts : List T}, Vs k d w ts → Vs k d w (ts.take i)
  | 0, ts, h => Vs.nil
  | i + 1, [], h => by simpa using h
  | i + 1, x :: xs, h => by
    have hn := h.n
    have hd := h.d
    have hw := h.w
    simp only [T.neatL, Bool.and_eq_true] at hn
    simp only [T.datL, PyData.depthAll] at hd
    simp only [T.datL, PyData.weightAll] at hw
    have ih := Vs.take i (d := d) (ts := xs) (w := PyData.weightAll (T.datL xs)) ⟨hn.2, by omega, Nat.le_refl _⟩
    exact (Vs.cons (t := x) (w := x.dat.weight) ⟨hn.1, by omega, Nat.le_refl _⟩ ih).mono (Nat.le_refl _) (Nat.le_refl _) (by omega)
theorem Vs.cut {k d w : Nat} {ts : List T} (h : Vs k d w ts) (lo hi : Option Int) : Vs k d w (cut ts lo hi) := (h.drop _).take _
theorem Vs.rev {k d w : Nat} : ∀ {ts : List T}, Vs k d w ts → Vs k d w ts.reverse
  | [], h => by simpa using h
  | x :: xs, h => by
    have hn := h.n
    have hd := h.d
    have hw := h.w
    simp only [T.neatL, Bool.and_eq_true] at hn
    simp only [T.datL, PyData.depthAll] at hd
    simp only [T.datL, PyData.weightAll] at hw
    have ih := Vs.rev (d := d) (ts := xs) (w := PyData.weightAll (T.datL xs)) ⟨hn.2, by omega, Nat.le_refl _⟩
    rw [List.reverse_cons]
    exact (ih.app (Vs.cons (t := x) (w := x.dat.weight) ⟨hn.1, by omega, Nat.le_refl _⟩ Vs.nil (w' := 0))).mono (Nat.le_refl _) (Nat.le_refl _) (by omega)
theorem V.bel_all {k d w m : Nat} {ts : List T} (h : Vs k d w ts) : T.belL m ts = true := pureL_bel (neatL_pure h.n)
theorem len_weight : ∀ (ts : List T), ts.length ≤ PyData.weightAll (T.datL ts)
  | [] => Nat.zero_le _
  | x :: xs => by
    simp only [T.datL, PyData.weightAll, List.length_cons]
    have := len_weight xs
    omega
/-! ### texts -/
theorem str_of {k : Nat} {x : Str} (h : (T.str x).neat k = true) : (∀ c ∈ x.cps.toList, c < 128) ∧ x.cps.toList.length ≤ 60 + k := by
  simpa only [T.neat, Bool.and_eq_true, List.all_eq_true, decide_eq_true_eq] using h
theorem str_mk {k : Nat} {x : Str} (h1 : ∀ c ∈ x.cps.toList, c < 128) (h2 : x.cps.toList.length ≤ 60 + k) : V k 0 (60 + k) (.str x) := by
  refine ⟨?_, by simp [T.dat, PyData.depth], ?_⟩
  · simp only [T.neat, Bool.and_eq_true, List.all_eq_true, decide_eq_true_eq]
    exact ⟨h1, h2⟩
  · simp only [T.dat, PyData.weight]
    simpa using h2
theorem app_list (x y : Str) : (x ++ y).cps.toList = x.cps.toList ++ y.cps.toList := by
  show (x.cps ++ y.cps).toList = _
  simp
theorem str_app {k : Nat} {x y : Str} (h : (T.str x).neat k = true) (hy : ∀ c ∈ y.cps.toList, c < 128) (hy1 : y.cps.toList.length ≤ 1) : V (k + 1) 0 (60 + (k + 1)) (.str (x ++ y)) := by
  obtain ⟨h1, h2⟩ := str_of h
  refine str_mk (fun c hc => ?_) ?_
  · rw [app_list] at hc
    exact (List.mem_append.mp hc).elim (h1 c) (hy c)
  · rw [app_list, List.length_append]; omega
theorem str_cut {k : Nat} {x : Str} (h : (T.str x).neat k = true) (lo hi : Option Int) : V k 0 (60 + k) (.str (L2.cutS x lo hi)) := by
  obtain ⟨h1, h2⟩ := str_of h
  refine str_mk (fun c hc => ?_) ?_
  · refine h1 c ?_
    unfold L2.cutS at hc
    exact List.mem_of_mem_drop (List.mem_of_mem_take (by simpa using hc))
  · unfold L2.cutS
    simp only [List.length_take, List.length_drop]
    omega
theorem str_up {k : Nat} {x : Str} (h : (T.str x).neat k = true) : V k 0 (60 + k) (.str (Txt.upper x)) := by
  obtain ⟨h1, h2⟩ := str_of h
  rw [PyProof.Rows.upper_ascii h1]
  refine str_mk (fun c hc => ?_) ?_
  · simp only [Array.toList_map, List.mem_map] at hc
    obtain ⟨d, hd, rfl⟩ := hc
    have := h1 d hd
    unfold PyProof.Rows.up1
    split <;> omega
  · simpa using h2
theorem str_int {k : Nat} {i : Int} (h : i.natAbs ≤ 1000000000000000000000000000000 + k) (hk : k ≤ 1000) : V k 0 (60 + k) (.str (Str.ofString (toString i))) := by
  refine str_mk (fun c hc => ?_) ?_
  · by_cases z : c < 128
    · exact z
    · exact absurd hc (PyProof.Rows.int_text_free' c ⟨by omega, by omega⟩ i)
  · have e := int_text_length_le10 (a := i) (k := 31) (by decide) (by
      have : (1000000000000000000000000000000 + 1000 : Nat) < 10 ^ 31 := by decide
      omega)
    have e2 : (Str.ofString (toString i)).cps.toList.length = (toString i).length := by
      have := ofString_length (toString i)
      simpa [Str.length] using this
    omega
end Px
end
section
set_option linter.all false
set_option maxRecDepth 100000
/-! Sh0: functions that many laws have, in my syntax. -/
namespace Px.sh
open PySem L2 Px
def lookF (x : Str) : List (Str × Fn) → Option Fn
  | [] => none
  | e :: es => if e.1 == x then some e.2 else lookF x es
def b__law_urn : Sms := (.cons (.asg (.nm 2) (.ife (.cmp .lt (.loc 1) (.bif "len" (.cons (.loc 0) .nil))) (.idx (.loc 0) (.loc 1)) (.bin .add (.bin .mul (.con (.int 19)) (.loc 1)) (.con (.int 6)))))
  (.cons (.asg (.nm 3) (.bin .mul (.bin .mod (.bif "abs" (.cons (.loc 2) .nil)) (.bin .pow (.bin .pow (.con (.int 10)) (.con (.int 60))) (.con (.int 5)))) (.bty "int" (.cons (.cmp .ge (.bif "abs" (.cons (.loc 2) .nil)) (.bin .pow (.con (.int 10)) (.con (.int 18)))) .nil))))
  (.cons (.ret (.new (.lst (.cons (.loc 3) (.cons (.bin .mod (.bin .add (.bin .add (.bin .mul (.bin .mod (.loc 2) (.con (.int 2305843009213693951))) (.con (.int 48271))) (.bin .mul (.bin .mul (.con (.int 7027)) (.loc 1)) (.loc 1))) (.con (.int 29))) (.con (.int 2305843009213693907))) (.cons (.con (.int 0)) .nil))))))
  .nil)))
def fn__law_urn : Fn := ⟨["_law_script", "_law_k"], 4, true, b__law_urn⟩
class F__law_urn (tab : Str → Option Fn) : Prop where h : tab "_law_urn" = some fn__law_urn
def b__law_take : Sms := (.cons (.ife (.cmp .gt (.idx (.loc 0) (.con (.int 0))) (.con (.int 0))) (.cons (.asg (.nm 2) (.bin .mod (.idx (.loc 0) (.con (.int 0))) (.loc 1)))
  (.cons (.set (.loc 0) (.con (.int 0)) (.bin .fdiv (.idx (.loc 0) (.con (.int 0))) (.loc 1)))
  (.cons (.ret (.loc 2))
  .nil))) .nil)
  (.cons (.set (.loc 0) (.con (.int 2)) (.bin .add (.idx (.loc 0) (.con (.int 2))) (.con (.int 1))))
  (.cons (.asg (.nm 3) (.idx (.lst (.cons (.con (.int 2147483647)) (.cons (.con (.int 2147483629)) (.cons (.con (.int 2147483587)) (.cons (.con (.int 2147483579)) (.cons (.con (.int 2147483563)) .nil)))))) (.bin .mod (.idx (.loc 0) (.con (.int 2))) (.con (.int 5)))))
  (.cons (.asg (.nm 4) (.bin .mod (.bin .pow (.bin .add (.bin .add (.idx (.loc 0) (.con (.int 1))) (.bin .mul (.bin .mul (.con (.int 65537)) (.idx (.loc 0) (.con (.int 2)))) (.idx (.loc 0) (.con (.int 2))))) (.con (.int 43))) (.con (.int 3))) (.loc 3)))
  (.cons (.ret (.bin .mod (.bin .fdiv (.bin .mod (.bin .mul (.loc 4) (.bin .add (.bin .mod (.loc 4) (.con (.int 10007))) (.bin .mul (.con (.int 83)) (.idx (.loc 0) (.con (.int 2)))))) (.con (.int 2305843009213693921))) (.con (.int 101))) (.loc 1)))
  .nil)))))
def fn__law_take : Fn := ⟨["_law_urn_here", "_law_many"], 5, false, b__law_take⟩
class F__law_take (tab : Str → Option Fn) : Prop where h : tab "_law_take" = some fn__law_take
def b__law_of : Sms := (.cons (.ret (.idx (.loc 1) (.call "_law_take" (.cons (.loc 0) (.cons (.bif "len" (.cons (.loc 1) .nil)) .nil)) [] .nil)))
  .nil)
def fn__law_of : Fn := ⟨["_law_urn_here", "_law_some"], 2, false, b__law_of⟩
class F__law_of (tab : Str → Option Fn) : Prop where h : tab "_law_of" = some fn__law_of
def b__law_box : Sms := (.cons (.ret (.tup (.cons (.call "_law_of" (.cons (.loc 0) (.cons (.lst (.cons (.con (.str "line")) (.cons (.con (.str "lanes")) .nil))) .nil)) [] .nil) (.cons (.call "_law_of" (.cons (.loc 0) (.cons (.lst (.cons (.con (.int 1)) (.cons (.con (.int 2)) (.cons (.con (.int 3)) (.cons (.con (.int 4)) (.cons (.con (.int 16)) .nil)))))) .nil)) [] .nil) .nil))))
  .nil)
def fn__law_box : Fn := ⟨["_law_urn_here"], 1, false, b__law_box⟩
class F__law_box (tab : Str → Option Fn) : Prop where h : tab "_law_box" = some fn__law_box
def b__law_odd : Sms := (.cons (.asg (.nm 1) (.lst (.cons (.con .non) (.cons (.con (.bl true)) (.cons (.con (.bl false)) (.cons (.con (.int 0)) (.cons (.con (.int 1)) (.cons (.neg (.con (.int 1))) (.cons (.con (.int 16)) (.cons (.con (.int 17)) (.cons (.bin .pow (.con (.int 10)) (.con (.int 20))) (.cons (.con (.str "")) (.cons (.con (.str "x")) (.cons (.con (.str "fence")) (.cons (.con (.str "store")) (.cons (.con (.str "line")) (.cons (.tup .nil) (.cons (.lst .nil) (.cons (.dic [] .nil) (.cons (.tup (.cons (.con (.str "fence")) .nil)) .nil))))))))))))))))))))
  (.cons (.asg (.nm 2) (.call "_law_of" (.cons (.loc 0) (.cons (.bin .add (.loc 1) (.lst (.cons (.tup (.cons (.con (.str "load")) (.cons (.con (.str "x")) .nil))) (.cons (.tup (.cons (.con (.int 0)) (.cons (.con (.int 1)) .nil))) (.cons (.tup (.cons (.con (.str "line")) (.cons (.con (.int 4)) .nil))) (.cons (.tup (.cons (.con (.int 0)) (.cons (.con (.int 0)) (.cons (.con (.int 1)) .nil)))) .nil)))))) .nil)) [] .nil))
  (.cons (.for (.nm 3) (.range (.cons (.call "_law_of" (.cons (.loc 0) (.cons (.lst (.cons (.con (.int 0)) (.cons (.con (.int 0)) (.cons (.con (.int 0)) (.cons (.con (.int 1)) (.cons (.con (.int 2)) (.cons (.con (.int 5)) .nil))))))) .nil)) [] .nil) .nil)) (.cons (.asg (.nm 2) (.call "_law_of" (.cons (.loc 0) (.cons (.lst (.cons (.tup (.cons (.loc 2) .nil)) (.cons (.lst (.cons (.loc 2) .nil)) (.cons (.dic ["a"] (.cons (.loc 2) .nil)) (.cons (.tup (.cons (.loc 2) (.cons (.con (.int 0)) .nil))) (.cons (.slc (.tup (.cons (.loc 2) (.cons (.loc 2) .nil))) .none (.some (.bin .add (.con (.int 1)) (.bty "int" (.cons (.cmp .lt (.loc 3) (.con (.int 3))) .nil))))) .nil)))))) .nil)) [] .nil))
  .nil))
  (.cons (.ret (.loc 2))
  .nil))))
def fn__law_odd : Fn := ⟨["_law_urn_here"], 4, false, b__law_odd⟩
class F__law_odd (tab : Str → Option Fn) : Prop where h : tab "_law_odd" = some fn__law_odd
def b__law_bent : Sms := (.cons (.ife (.and (.bif "isinstance" (.cons (.loc 1) (.cons (.con (.ty "tuple")) .nil))) (.and (.cmp .ne (.loc 1) (.tup .nil)) (.cmp .gt (.call "_law_take" (.cons (.loc 0) (.cons (.con (.int 6)) .nil)) [] .nil) (.con (.int 0))))) (.cons (.par [2, 3] (.cons (.call "_law_take" (.cons (.loc 0) (.cons (.bif "len" (.cons (.loc 1) .nil)) .nil)) [] .nil) (.cons (.call "_law_take" (.cons (.loc 0) (.cons (.con (.int 9)) .nil)) [] .nil) .nil)))
  (.cons (.ife (.cmp .lt (.loc 3) (.con (.int 5))) (.cons (.ret (.bin .add (.bin .add (.slc (.loc 1) .none (.some (.loc 2))) (.tup (.cons (.call "_law_bent" (.cons (.loc 0) (.cons (.idx (.loc 1) (.loc 2)) .nil)) [] .nil) .nil))) (.slc (.loc 1) (.some (.bin .add (.loc 2) (.con (.int 1)))) .none)))
  .nil) .nil)
  (.cons (.ret (.idx (.lst (.cons (.bin .add (.slc (.loc 1) .none (.some (.loc 2))) (.slc (.loc 1) (.some (.bin .add (.loc 2) (.con (.int 1)))) .none)) (.cons (.bin .add (.slc (.loc 1) .none (.some (.bin .add (.loc 2) (.con (.int 1))))) (.slc (.loc 1) (.some (.loc 2)) .none)) (.cons (.rev (.loc 1)) (.cons (.bty "list" (.cons (.loc 1) .nil)) .nil))))) (.bin .sub (.loc 3) (.con (.int 5)))))
  .nil))) .nil)
  (.cons (.ife (.and (.bif "isinstance" (.cons (.loc 1) (.cons (.con (.ty "str")) .nil))) (.cmp .gt (.call "_law_take" (.cons (.loc 0) (.cons (.con (.int 4)) .nil)) [] .nil) (.con (.int 0)))) (.cons (.asg (.nm 4) (.lst (.cons (.bin .add (.loc 1) (.con (.str "x"))) (.cons (.slc (.loc 1) (.some (.con (.int 1))) .none) (.cons (.mth (.loc 1) "upper" .nil) (.cons (.con (.str "swap")) (.cons (.con (.str "load")) (.cons (.con (.str "abcde")) (.cons (.con (.str "fence")) (.cons (.con (.str "lanes")) (.cons (.con (.str "x1")) (.cons (.con (.str "zz")) .nil))))))))))))
  (.cons (.ret (.call "_law_of" (.cons (.loc 0) (.cons (.loc 4) .nil)) [] .nil))
  .nil)) .nil)
  (.cons (.ife (.and (.bif "isinstance" (.cons (.loc 1) (.cons (.con (.ty "int")) .nil))) (.cmp .gt (.call "_law_take" (.cons (.loc 0) (.cons (.con (.int 4)) .nil)) [] .nil) (.con (.int 0)))) (.cons (.ret (.call "_law_of" (.cons (.loc 0) (.cons (.lst (.cons (.bin .add (.loc 1) (.con (.int 1))) (.cons (.bin .sub (.loc 1) (.con (.int 1))) (.cons (.cmp .eq (.loc 1) (.con (.int 1))) (.cons (.con .non) (.cons (.con (.int 0)) (.cons (.con (.int 16)) (.cons (.con (.int 17)) (.cons (.bty "str" (.cons (.loc 1) .nil)) .nil))))))))) .nil)) [] .nil))
  .nil) .nil)
  (.cons (.ret (.call "_law_odd" (.cons (.loc 0) .nil) [] .nil))
  .nil))))
def fn__law_bent : Fn := ⟨["_law_urn_here", "_law_thing"], 5, false, b__law_bent⟩
class F__law_bent (tab : Str → Option Fn) : Prop where h : tab "_law_bent" = some fn__law_bent
def b__law_deep : Sms := (.cons (.asg (.nm 0) (.tup .nil))
  (.cons (.for (.nm 1) (.range (.cons (.con (.int 29)) .nil)) (.cons (.asg (.nm 0) (.idx (.lst (.cons (.tup (.cons (.loc 0) .nil)) (.cons (.lst (.cons (.loc 0) .nil)) (.cons (.dic ["a"] (.cons (.loc 0) .nil)) .nil)))) (.bin .mul (.bin .mod (.loc 1) (.con (.int 3))) (.bty "int" (.cons (.cmp .lt (.loc 1) (.con (.int 20))) .nil)))))
  .nil))
  (.cons (.ret (.loc 0))
  .nil)))
def fn__law_deep : Fn := ⟨[], 2, false, b__law_deep⟩
class F__law_deep (tab : Str → Option Fn) : Prop where h : tab "_law_deep" = some fn__law_deep
def b_law : Sms := (.cons (.ret (.bif "all" (.cons (.comp [1] (.nm 1) (.range (.cons (.bif "max" (.cons (.con (.int 1)) (.cons (.bif "min" (.cons (.con (.int 3)) (.cons (.bif "len" (.cons (.loc 0) .nil)) .nil))) .nil))) .nil)) .nil (.call "_law_right" (.cons (.call "_law_urn" (.cons (.loc 0) (.cons (.loc 1) .nil)) [] .nil) .nil) [] .nil)) .nil)))
  .nil)
def fn_law : Fn := ⟨["_law_script"], 2, false, b_law⟩
class F_law (tab : Str → Option Fn) : Prop where h : tab "law" = some fn_law
end Px.sh
end
section
set_option linter.all false
set_option maxRecDepth 100000
namespace Px.sh
open PySem Px
variable {tab : Str → Option Fn} {W n : Nat} {S : Sto} {P : T → Sto → Prop}
theorem t_take [F__law_take tab] {l B : Nat} {m : Int} (hu : Ur l B S) (hB : B < 2 ^ 60) (hm : 0 < m) (hm2 : m < 2 ^ 30) (h : ∀ r S', 0 ≤ r → r < m → Ur l (B + 1) S' → Only l S S' → P (.int r) S') : Run (callN tab W (n + 1) "_law_take" [.loc l, .int m] [] S) P := by
  have hl := hu.lt
  obtain ⟨a, b, c, hS, ha, hb, hb2, hc, hc2⟩ := hu
  refine run_call (fn := fn__law_take) (as := [.loc l, .int m]) F__law_take.h (by rfl) ?_
  show Run (execs _ b__law_take [some (.loc l), some (.int m), none, none, none] S) (Fin false S P)
  have hbm : bits m ≤ 30 := bits_lt 30 (by omega)
  unfold b__law_take
  refine run_if (run_v (.bl (decide (0 < a))) (by simp only [rv_cmp, rv_idx, rv_loc, rv_con]; simp [vw0_loc hS, -Bool.decide_eq_true]) ⟨_, rfl, fun h0 => ?_, fun h0 => ?_⟩)
  · simp at h0
    simp [vw0_loc hS, h0, rx_set, hS]
    refine ⟨hm, ⟨hm, by omega⟩, gc_only rfl Only.set (ur_set hl (B := B + 1) (by exact Int.ediv_nonneg ha (by omega)) hb hb2 hc (by omega)) (h _ _ (Int.emod_nonneg _ (by omega)) (Int.emod_lt_of_pos _ hm) (ur_set hl (by exact Int.ediv_nonneg ha (by omega)) hb hb2 hc (by omega)) Only.set)⟩
  · have hS' : (S.set l (.lst [.int a, .int b, .int (c + 1)]))[l]? = some (.lst [.int a, .int b, .int (c + 1)]) := by rw [List.getElem?_set_self hl]
    have hu' : Ur l (B + 1) (S.set l (.lst [.int a, .int b, .int (c + 1)])) := ur_set hl ha hb hb2 (by omega) (by omega)
    have ho : Only l S (S.set l (.lst [.int a, .int b, .int (c + 1)])) := Only.set
    rw [rxs_nil, nx_nx]
    refine run_seq (ρ' := [some (.loc l), some (.int m), none, none, none]) (S1 := S.set l (.lst [.int a, .int b, .int (c + 1)])) (by rw [rx_set]; simp [vw0_loc hS, hS]) ?_
    generalize List.set S l _ = S1 at hS' hu' ho ⊢
    have h5 : 0 ≤ (c + 1) % 5 := Int.emod_nonneg _ (by decide)
    have h5' : (c + 1) % 5 < 5 := Int.emod_lt_of_pos _ (by decide)
    obtain ⟨v, hv, hv2⟩ := at_lt (xs := [T.int 2147483647, .int 2147483629, .int 2147483587, .int 2147483579, .int 2147483563]) h5 (by simpa using h5')
    have hp : ∃ p : Int, v = .int p ∧ 0 < p ∧ p < 2147483648 := by
      have := List.mem_of_getElem? hv2
      simp at this
      rcases this with rfl | rfl | rfl | rfl | rfl <;> exact ⟨_, rfl, by decide, by decide⟩
    obtain ⟨p, rfl, hp1, hp2⟩ := hp
    have bc : bits (c + 1) ≤ 61 := bits_lt 61 (by omega)
    have bb : bits b ≤ 61 := bits_lt 61 (by omega)
    have b1 : bits 65537 ≤ 17 := by decide
    have b2 : bits 43 ≤ 6 := by decide
    have b3 := bits_mul 65537 (c + 1)
    have b4 := bits_mul (65537 * (c + 1)) (c + 1)
    have b5 := bits_add b (65537 * (c + 1) * (c + 1))
    have b6 := bits_add (b + 65537 * (c + 1) * (c + 1)) 43
    refine run_asg (run_v (.int p) (by simp [vw0_loc hS', hv]; decide) ?_)
    refine run_asg (run_v (.int ((b + 65537 * (c + 1) * (c + 1) + 43) ^ 3 % p)) (by
      simp [vw0_loc hS', hp1]
      omega) ?_)
    have hq := Int.emod_nonneg ((b + 65537 * (c + 1) * (c + 1) + 43) ^ 3) (show p ≠ 0 by omega)
    have hq2 := Int.emod_lt_of_pos ((b + 65537 * (c + 1) * (c + 1) + 43) ^ 3) hp1
    generalize (b + 65537 * (c + 1) * (c + 1) + 43) ^ 3 % p = q at hq hq2 ⊢
    refine run_ret ?_
    have c1 : bits q ≤ 31 := bits_lt 31 (by omega)
    have c2 : bits (q % 10007) ≤ 31 := bits_lt 31 (by omega)
    have c3 : bits 83 ≤ 7 := by decide
    have c4 := bits_mul 83 (c + 1)
    have c5 := bits_add (q % 10007) (83 * (c + 1))
    have c6 : bits 101 < 9000 := by decide
    simp [vw0_loc hS']
    exact ⟨by omega, by omega, c6, hm, gc_only rfl ho hu' (h _ _ (Int.emod_nonneg _ (by omega)) (Int.emod_lt_of_pos _ hm) hu' ho)⟩
theorem t_of [F__law_take tab] [F__law_of tab] {l B : Nat} {xs : List T} (hu : Ur l B S) (hB : B < 2 ^ 60) (hx : xs ≠ []) (hx2 : xs.length < 2 ^ 30) (hp : T.belL S.length xs = true) (h : ∀ v S', v ∈ xs → Ur l (B + 1) S' → Only l S S' → P v S') : Run (callN tab W (n + 2) "_law_of" [.loc l, .vl xs] [] S) P := by
  refine run_call (fn := fn__law_of) (as := [.loc l, .vl xs]) F__law_of.h (by rfl) ?_
  show Run (execs _ b__law_of [some (.loc l), some (.vl xs)] S) (Fin false S P)
  unfold b__law_of
  refine run_ret ?_
  simp
  have hl : 0 < xs.length := List.length_pos_iff.mpr hx
  refine t_take hu hB (by omega) (by omega) fun r S' h0 h1 hu' ho => ?_
  obtain ⟨v, hv, hv2⟩ := at_lt h0 h1
  have hm := List.mem_of_getElem? hv2
  simp [hv]
  exact gc_only (belL_mem hp v hm) ho hu' (h v S' hm hu' ho)
end Px.sh
end
section
set_option linter.all false
set_option maxRecDepth 100000
namespace Px.sh
open PySem Px
variable {tab : Str → Option Fn} [F__law_take tab] [F__law_of tab] {W n : Nat} {S : Sto} {P : T → Sto → Prop}
/-! ### the law's values -/
theorem t_box [F__law_box tab] {l B : Nat} (hu : Ur l B S) (hB : B + 2 < 2 ^ 60) (h : ∀ v S', V 0 1 100 v → Ur l (B + 2) S' → Only l S S' → P v S') : Run (callN tab W (n + 3) "_law_box" [.loc l] [] S) P := by
  refine run_call (fn := fn__law_box) (as := [.loc l]) F__law_box.h (by rfl) ?_
  show Run (execs _ b__law_box [some (.loc l)] S) (Fin false S P)
  unfold b__law_box
  refine run_ret ?_
  simp [lim]
  refine t_of hu (by omega) (by simp) (by simp) (by rfl) fun v S1 hv hu1 ho1 => ?_
  refine t_of hu1 (by omega) (by simp) (by simp) (by rfl) fun v2 S2 hv2 hu2 ho2 => ?_
  have a1 : V 0 0 10 v := by
    simp at hv
    rcases hv with rfl | rfl <;> exact ⟨by decide +kernel, by decide +kernel, by decide +kernel⟩
  have a2 : V 0 0 10 v2 := by
    simp at hv2
    rcases hv2 with rfl | rfl | rfl | rfl | rfl <;> exact ⟨by decide +kernel, by decide +kernel, by decide +kernel⟩
  have a3 : V 0 1 100 (.tup [v, v2]) := (Vs.tup (Vs.cons a1 (Vs.cons a2 (Vs.nil (w := 0))))).mono (by omega) (by omega) (by omega)
  exact gc_only a3.bel (ho1.trans ho2) hu2 (h _ _ a3 hu2 (ho1.trans ho2))
def vOk (d w : Nat) (t : T) : Bool := t.neat 0 && decide (t.dat.depth ≤ d) && decide (t.dat.weight ≤ w)
theorem v_of {d w : Nat} {ts : List T} (h : ts.all (vOk d w) = true) : ∀ t ∈ ts, V 0 d w t := fun t ht => by
  have := List.all_eq_true.mp h t ht
  simp only [vOk, Bool.and_eq_true, decide_eq_true_eq] at this
  exact ⟨this.1.1, this.1.2, this.2⟩
theorem t_odd [F__law_odd tab] {l B : Nat} (hu : Ur l B S) (hB : B + 20 < 2 ^ 60) (h : ∀ v S', V 0 8 2400 v → Ur l (B + 10) S' → Only l S S' → P v S') : Run (callN tab W (n + 3) "_law_odd" [.loc l] [] S) P := by
  refine run_call (fn := fn__law_odd) (as := [.loc l]) F__law_odd.h (by rfl) ?_
  show Run (execs _ b__law_odd [some (.loc l), none, none, none] S) (Fin false S P)
  unfold b__law_odd
  refine run_asg ?_
  simp [lim]
  refine ⟨by decide, ?_⟩
  refine t_of hu (by omega) (by simp) (by simp) (by rfl) fun v S1 hv hu1 ho1 => ?_
  have hv := v_of (d := 1) (w := 70) (by decide +kernel) v hv
  generalize T.vl _ = x1
  have hrest : ∀ (ρ : Env) (S' : Sto) (f : T), V 0 8 2400 f → Ur l (B + 10) S' → Only l S S' → ρ[2]? = some (some f) → Run (execs ⟨callN tab W (n + 2), W⟩ (Sms.cons (Sm.ret (Ex.loc 2)) Sms.nil) ρ S') (Fin false S P) := by
    intro ρ S' f hf hu' ho' hρ
    simp [hρ]
    exact gc_only hf.bel ho' hu' (h _ _ hf hu' ho')
  rw [← rxs_cons]
  refine run_for ?_
  simp [lim]
  refine t_of hu1 (by omega) (by simp) (by simp) (by rfl) fun r S2 hr hu2 ho2 => ?_
  have hr : ∃ j : Int, r = .int j ∧ 0 ≤ j ∧ j ≤ 5 := by
    simp at hr
    rcases hr with rfl | rfl | rfl | rfl <;> exact ⟨_, rfl, by decide, by decide⟩
  obtain ⟨j, rfl, hj0, hj5⟩ := hr
  simp
  refine ⟨⟨by omega, by omega⟩, ?_⟩
  refine run_forL (fun i ρ S' => ∃ f o, ρ = [some (.loc l), some x1, some f, o] ∧ V 0 (1 + i) (74 * 2 ^ i - 4) f ∧ Ur l (B + 2 + i) S' ∧ Only l S S') _ 0 _ _ ⟨v, none, rfl, by simpa using hv, hu2, ho1.trans ho2⟩ ?_ ?_
  · rintro i x ρ S' hx ⟨f, o, rfl, hf, hu', ho'⟩
    obtain ⟨rfl, hi⟩ := rng_at hx
    have hp : 2 ^ i ≥ 1 := Nat.one_le_two_pow
    have hi5 : i < 5 := by omega
    rw [Nat.zero_add] at hf hu' ⊢
    have key : ∀ m : Int, Run (callN tab W (n + 2) (Str.ofString "_law_of") [.loc l, .vl [.tup [f], .vl [f], .vd [.str (Str.ofString "a")] [f], .tup [f, .int 0], .tup (cut [f, f] none (some m))]] [] S')
        fun v S1 => V 0 (1 + (i + 1)) (74 * 2 ^ (i + 1) - 4) v ∧ Ur l (B + 2 + (i + 1)) S1 ∧ Only l S S1 := fun m => by
      refine t_of hu' (by omega) (by simp) (by simp) ?_ fun f' S3 hf' hu3 ho3 => ?_
      · simp [T.belL, T.bel, hf.bel, cut]
        refine pureL_bel (neatL_pure (k := 0) ?_)
        exact ((Vs.cons hf (Vs.cons hf (Vs.nil (w := 0)))).cut none _).n
      · have e2 : 2 ^ (i + 1) = 2 * 2 ^ i := by rw [Nat.pow_succ]; omega
        have hV : V 0 (1 + (i + 1)) (74 * 2 ^ (i + 1) - 4) f' := by
          rw [e2]
          have a0 : V 0 (1 + i) 0 (.int 0) := ⟨by decide +kernel, by simp [T.dat, PyData.depth], by decide +kernel⟩
          have a1 : V 0 (1 + i) 1 (.str (Str.ofString "a")) := ⟨by decide +kernel, by simp [T.dat, PyData.depth], by decide +kernel⟩
          simp at hf'
          rcases hf' with rfl | rfl | rfl | rfl | rfl
          · exact (Vs.tup (Vs.cons hf (Vs.nil (w := 0)))).mono (by omega) (by omega) (by omega)
          · exact (Vs.vl (Vs.cons hf (Vs.nil (w := 0)))).mono (by omega) (by omega) (by omega)
          · exact (V.vd1 a1 hf).mono (by omega) (by omega) (by omega)
          · exact (Vs.tup (Vs.cons hf (Vs.cons a0 (Vs.nil (w := 0))))).mono (by omega) (by omega) (by omega)
          · exact (Vs.tup ((Vs.cons hf (Vs.cons hf (Vs.nil (w := 0)))).cut none _)).mono (by omega) (by omega) (by omega)
        exact ⟨hV, hu3.mono (by omega), ho'.trans ho3⟩
    simp [lim, ro_some]
    rcases Nat.lt_or_ge i 3 with c | c
    · exact .inr ⟨by omega, key 2⟩
    · exact .inl ⟨by omega, key 1⟩
  · rintro ρ S' ⟨f, o, rfl, hf, hu', ho'⟩
    rw [rng_len] at hf hu'
    have hj : (j - 0).toNat ≤ 5 := by omega
    have hp : 2 ^ (0 + (j - 0).toNat) ≤ 32 := Nat.le_trans (Nat.pow_le_pow_right (by decide) (by omega)) (show 2 ^ 5 ≤ 32 by decide)
    exact hrest [some (.loc l), some x1, some f, o] _ f (hf.mono (by omega) (by omega) (by omega)) (hu'.mono (by omega)) ho' rfl
end Px.sh
end
section
set_option linter.all false
set_option maxRecDepth 100000
namespace Px.sh
open PySem Px
variable {tab : Str → Option Fn} [F__law_take tab] [F__law_of tab] [F__law_odd tab]
/-- the weight that a bent value may have -/
def G : Nat → Nat → Nat
  | 0, w => 2 * w + 2500
  | d + 1, w => 2 * w + G d w + 1
theorem G_le : ∀ d w, 2 * w + 2500 ≤ G d w
  | 0, w => Nat.le_refl _
  | d + 1, w => by
    have := G_le d w
    show _ ≤ 2 * w + G d w + 1
    omega
theorem isi_gd {t : T} {n : String} : isi t n = (tyOf t).bind fun m => gd (["int", "bool", "str", "tuple", "list", "dict"].contains n) (m == n || (m == "bool" && n == "int")) := rfl
theorem t_bent_odd {W n : Nat} {S S1 : Sto} {P : T → Sto → Prop} {l B : Nat} {t : T} {o1 o2 o3 : Option T} (hu : Ur l B S1) (ho : Only l S S1) (hB : B + 20 < 2 ^ 60) (h : ∀ v S', V 0 8 2400 v → Ur l (B + 10) S' → Only l S S' → P v S') :
    Run (execs ⟨callN tab W (n + 3), W⟩ (.cons (.ret (.call "_law_odd" (.cons (.loc 0) .nil) [] .nil)) .nil) [some (.loc l), some t, o1, o2, o3] S1) (Fin false S P) := by
  refine run_ret ?_
  simp
  exact t_odd hu hB fun v S' hv hu' ho' => gc_only hv.bel (ho.trans ho') hu' (h v S' hv hu' (ho.trans ho'))
theorem v_bl {k d w : Nat} {b : Bool} : V k d w (.bl b) := ⟨rfl, by simp [T.dat, PyData.depth], by simp [T.dat, PyData.weight]⟩
theorem v_non {k d w : Nat} : V k d w .non := ⟨rfl, by simp [T.dat, PyData.depth], by simp [T.dat, PyData.weight]⟩
/-- if A and take(..) > 0 -/
theorem run_if_take {W n : Nat} {S S1 : Sto} {P : Fl × Env → Sto → Prop} {l B : Nat} {A : Ex} {m : Int} {a ss : Sms} {ρ : Env} (b0 : Bool) (hA : Run (ev ⟨callN tab W (n + 1), W⟩ A ρ S1) fun x S' => x = .bl b0 ∧ S' = S1) (h0 : ρ[0]? = some (some (.loc l))) (hm : 0 < m) (hm2 : m < 2 ^ 30)
    (hu : Ur l B S1) (ho : Only l S S1) (hB : B < 2 ^ 60) (hf : ∀ S2, Ur l (B + 1) S2 → Only l S S2 → Run (execs ⟨callN tab W (n + 1), W⟩ ss ρ S2) P) (ht : b0 = true → ∀ S2, Ur l (B + 1) S2 → Only l S S2 → Run (execs ⟨callN tab W (n + 1), W⟩ a ρ S2) (Nx ⟨callN tab W (n + 1), W⟩ ss P)) :
    Run (execs ⟨callN tab W (n + 1), W⟩ (.cons (.ife (.and A (.cmp .gt (.call "_law_take" (.cons (.loc 0) (.cons (.con (.int m)) .nil)) [] .nil) (.con (.int 0)))) a .nil) ss) ρ S1) P := by
  refine run_if ?_
  rw [rv_and]
  refine hA.mono fun x S' ⟨e1, e2⟩ => ?_
  subst e1 e2
  refine ⟨b0, rfl, ?_⟩
  cases b0 with
  | false =>
    rw [if_neg (by decide)]
    exact ⟨false, rfl, fun z => absurd z (by decide), fun _ => by rw [rxs_nil, nx_nx]; exact hf _ (hu.mono (by omega)) ho⟩
  | true =>
    rw [if_pos rfl, rv_cmp, rv_call, rs_cons, rv_loc]
    refine ⟨_, h0, ?_⟩
    rw [rs_cons, rv_con, rs_nil, rs_nil]
    refine t_take hu hB hm hm2 fun r S2 _ _ hu2 ho2 => ?_
    rw [rv_con]
    refine ⟨decide (0 < r), rfl, decide (0 < r), rfl, fun _ => ht rfl S2 hu2 (ho.trans ho2), fun _ => by rw [rxs_nil, nx_nx]; exact hf _ hu2 (ho.trans ho2)⟩
def s_int : Sm := (.ife (.and (.bif "isinstance" (.cons (.loc 1) (.cons (.con (.ty "int")) .nil))) (.cmp .gt (.call "_law_take" (.cons (.loc 0) (.cons (.con (.int 4)) .nil)) [] .nil) (.con (.int 0)))) (.cons (.ret (.call "_law_of" (.cons (.loc 0) (.cons (.lst (.cons (.bin .add (.loc 1) (.con (.int 1))) (.cons (.bin .sub (.loc 1) (.con (.int 1))) (.cons (.cmp .eq (.loc 1) (.con (.int 1))) (.cons (.con .non) (.cons (.con (.int 0)) (.cons (.con (.int 16)) (.cons (.con (.int 17)) (.cons (.bty "str" (.cons (.loc 1) .nil)) .nil))))))))) .nil)) [] .nil))
  .nil) .nil)
theorem t_bent_int {W n : Nat} {S S1 : Sto} {P : T → Sto → Prop} {l B k d w : Nat} {t : T} (hk : k ≤ 100) (ht : V k d w t) (hu : Ur l B S1) (ho : Only l S S1) (hB : B + 40 < 2 ^ 60) (h : ∀ v S', V (k + 1) (d + 9) 2500 v → Ur l (B + 12) S' → Only l S S' → P v S') :
    Run (execs ⟨callN tab W (n + 3), W⟩ (.cons s_int (.cons (.ret (.call "_law_odd" (.cons (.loc 0) .nil) [] .nil)) .nil)) [some (.loc l), some t, none, none, none] S1) (Fin false S P) := by
  have odd : ∀ S2 B', B' ≤ B + 1 → Ur l B' S2 → Only l S S2 → Run (execs ⟨callN tab W (n + 3), W⟩ (.cons (.ret (.call "_law_odd" (.cons (.loc 0) .nil) [] .nil)) .nil) [some (.loc l), some t, none, none, none] S2) (Fin false S P) :=
    fun S2 B' hb' hu2 ho2 => t_bent_odd hu2 ho2 (by omega) fun v S' hv hu' ho' => h v S' (hv.mono (by omega) (by omega) (by omega)) (hu'.mono (by omega)) ho'
  have rest : ∀ (a b e f : T), V (k + 1) 0 200 a → V (k + 1) 0 200 b → V (k + 1) 0 200 e → V (k + 1) 0 200 f → ∀ S2, Ur l (B + 1) S2 → Only l S S2 →
      Run (callN tab W (n + 3) (Str.ofString "_law_of") [.loc l, .vl [a, b, e, .non, .int 0, .int 16, .int 17, f]] [] S2) fun v S' => Run (gc S v S') P := by
    intro a b e f ha hb he hf S2 hu2 ho2
    refine t_of (n := n + 1) hu2 (by omega) (by simp) (by simp) ?_ fun v S' hv hu' ho' => ?_
    · simp [T.belL, T.bel, ha.bel, hb.bel, he.bel, hf.bel]
    · have hv : V (k + 1) 0 200 v := by
        simp at hv
        rcases hv with rfl | rfl | rfl | rfl | rfl | rfl | rfl | rfl
        · exact ha
        · exact hb
        · exact he
        · exact v_non
        · exact (v_of (d := 0) (w := 200) (ts := [.int 0]) (by decide +kernel) _ (by simp)).mono (by omega) (by omega) (by omega)
        · exact (v_of (d := 0) (w := 200) (ts := [.int 16]) (by decide +kernel) _ (by simp)).mono (by omega) (by omega) (by omega)
        · exact (v_of (d := 0) (w := 200) (ts := [.int 17]) (by decide +kernel) _ (by simp)).mono (by omega) (by omega) (by omega)
        · exact hf
      exact gc_only hv.bel (ho2.trans ho') hu' (h v S' (hv.mono (by omega) (by omega) (by omega)) (hu'.mono (by omega)) (ho2.trans ho'))
  have hn := ht.n
  have odd2 : ∀ S2, Ur l (B + 1) S2 → Only l S S2 → Run (execs ⟨callN tab W (n + 3), W⟩ (.cons (.ret (.call "_law_odd" (.cons (.loc 0) .nil) [] .nil)) .nil) [some (.loc l), some t, none, none, none] S2) (Fin false S P) := fun S2 => odd S2 (B + 1) (by omega)
  have bad : isi t "int" = some false → Run (execs ⟨callN tab W (n + 3), W⟩ (.cons s_int (.cons (.ret (.call "_law_odd" (.cons (.loc 0) .nil) [] .nil)) .nil)) [some (.loc l), some t, none, none, none] S1) (Fin false S P) := fun e =>
    run_if_take (n := n + 2) (l := l) false (by simp [ht.vw, e]) rfl (by decide) (by decide) hu ho (by omega) odd2 (fun z => by cases z)
  cases t with
  | int i =>
    refine run_if_take (n := n + 2) (l := l) true (by simp [isi_gd, tyOf, gd]) rfl (by decide) (by decide) hu ho (by omega) odd2 fun _ S2 hu2 ho2 => ?_
    refine run_ret ?_
    simp only [T.neat, decide_eq_true_eq] at hn
    have hs := str_int hn (by omega)
    have hb : bits i < 1900 := by
      have := int_log hn (by omega)
      unfold bits
      omega
    have e1 : ∃ b, cmpT .eq (.int i) (.int 1) = some b := ⟨_, rfl⟩
    obtain ⟨b, e1⟩ := e1
    have hint : ∀ j : Int, j.natAbs ≤ i.natAbs + 1 → V (k + 1) 0 200 (.int j) := fun j hj => by
      have h1 : j.natAbs ≤ 1000000000000000000000000000000 + (k + 1) := by omega
      have h2 := int_log h1 (by omega)
      refine ⟨by simp only [T.neat, decide_eq_true_eq]; exact h1, by simp [T.dat, PyData.depth], ?_⟩
      simp only [T.dat, PyData.weight]
      split <;> omega
    simp [lim, e1, bty_str hb, -Bool.exists_bool]
    exact rest _ _ (.bl b) _ (hint (i + 1) (by omega)) (hint (i - 1) (by omega)) v_bl (hs.mono (by omega) (by omega) (by omega)) S2 hu2 ho2
  | bl c =>
    refine run_if_take (n := n + 2) (l := l) true (by simp [isi_gd, tyOf, gd]) rfl (by decide) (by decide) hu ho (by omega) odd2 fun _ S2 hu2 ho2 => ?_
    refine run_ret ?_
    have e1 : ∃ b, cmpT .eq (.bl c) (.int 1) = some b := ⟨_, rfl⟩
    obtain ⟨b, e1⟩ := e1
    cases c with
    | true =>
      simp [lim, e1, -Bool.exists_bool]
      exact rest (.int 2) (.int 0) (.bl b) (.str (Str.ofString "True")) ((v_of (d := 0) (w := 200) (ts := [.int 2]) (by decide +kernel) _ (by simp)).mono (by omega) (by omega) (by omega)) ((v_of (d := 0) (w := 200) (ts := [.int 0]) (by decide +kernel) _ (by simp)).mono (by omega) (by omega) (by omega)) v_bl ((v_of (d := 0) (w := 200) (ts := [.str (Str.ofString "True")]) (by decide +kernel) _ (by simp)).mono (by omega) (by omega) (by omega)) S2 hu2 ho2
    | false =>
      simp [lim, e1, -Bool.exists_bool]
      exact rest (.int 1) (.int (-1)) (.bl b) (.str (Str.ofString "False")) ((v_of (d := 0) (w := 200) (ts := [.int 1]) (by decide +kernel) _ (by simp)).mono (by omega) (by omega) (by omega)) ((v_of (d := 0) (w := 200) (ts := [.int (-1)]) (by decide +kernel) _ (by simp)).mono (by omega) (by omega) (by omega)) v_bl ((v_of (d := 0) (w := 200) (ts := [.str (Str.ofString "False")]) (by decide +kernel) _ (by simp)).mono (by omega) (by omega) (by omega)) S2 hu2 ho2
  | non => exact bad rfl
  | str x => exact bad rfl
  | tup xs => exact bad rfl
  | vl xs => exact bad rfl
  | vd ks vs => exact bad rfl
  | _ => simp [T.neat] at hn
end Px.sh
end
section
set_option linter.all false
set_option maxRecDepth 100000
namespace Px.sh
open PySem Px
variable {tab : Str → Option Fn} [F__law_take tab] [F__law_of tab] [F__law_odd tab]
def s_odd : Sms := .cons (.ret (.call "_law_odd" (.cons (.loc 0) .nil) [] .nil)) .nil
def s_str : Sm := (.ife (.and (.bif "isinstance" (.cons (.loc 1) (.cons (.con (.ty "str")) .nil))) (.cmp .gt (.call "_law_take" (.cons (.loc 0) (.cons (.con (.int 4)) .nil)) [] .nil) (.con (.int 0)))) (.cons (.asg (.nm 4) (.lst (.cons (.bin .add (.loc 1) (.con (.str "x"))) (.cons (.slc (.loc 1) (.some (.con (.int 1))) .none) (.cons (.mth (.loc 1) "upper" .nil) (.cons (.con (.str "swap")) (.cons (.con (.str "load")) (.cons (.con (.str "abcde")) (.cons (.con (.str "fence")) (.cons (.con (.str "lanes")) (.cons (.con (.str "x1")) (.cons (.con (.str "zz")) .nil))))))))))))
  (.cons (.ret (.call "_law_of" (.cons (.loc 0) (.cons (.loc 4) .nil)) [] .nil))
  .nil)) .nil)
theorem t_bent_str {W n : Nat} {S S1 : Sto} {P : T → Sto → Prop} {l B k d w : Nat} {t : T} (hk : k ≤ 100) (ht : V k d w t) (hu : Ur l B S1) (ho : Only l S S1) (hB : B + 50 < 2 ^ 60) (h : ∀ v S', V (k + 1) (d + 9) 2500 v → Ur l (B + 13) S' → Only l S S' → P v S') :
    Run (execs ⟨callN tab W (n + 3), W⟩ (.cons s_str (.cons s_int s_odd)) [some (.loc l), some t, none, none, none] S1) (Fin false S P) := by
  have rest : ∀ S2, Ur l (B + 1) S2 → Only l S S2 → Run (execs ⟨callN tab W (n + 3), W⟩ (.cons s_int s_odd) [some (.loc l), some t, none, none, none] S2) (Fin false S P) := fun S2 hu2 ho2 =>
    t_bent_int hk ht hu2 ho2 (by omega) fun v S' hv hu' ho' => h v S' hv (hu'.mono (by omega)) ho'
  have hn := ht.n
  have bad : isi t "str" = some false → Run (execs ⟨callN tab W (n + 3), W⟩ (.cons s_str (.cons s_int s_odd)) [some (.loc l), some t, none, none, none] S1) (Fin false S P) := fun e =>
    run_if_take (n := n + 2) (l := l) false (by simp [ht.vw, e]) rfl (by decide) (by decide) hu ho (by omega) rest (fun z => by cases z)
  cases t with
  | str x =>
    refine run_if_take (n := n + 2) (l := l) true (by simp [isi_gd, tyOf, gd]) rfl (by decide) (by decide) hu ho (by omega) rest fun _ S2 hu2 ho2 => ?_
    obtain ⟨h1, h2⟩ := str_of hn
    have hx : x.length ≤ 160 := by
      have : x.cps.toList.length = x.length := by simp [Str.length]
      omega
    have a1 := str_app (y := Str.ofString "x") hn (by decide) (by decide)
    have a2 := str_cut hn (some 1) none
    have a3 := str_up hn
    refine run_asg ?_
    have e1 : slcT (.str x) (some 1) none = some (.str (L2.cutS x (some 1) none)) := by
      show gd (decide (x.length ≤ lim)) _ = _
      rw [decide_eq_true (by unfold lim; omega)]; rfl
    have e2 : mthT "upper" (.str x) [] = some (.str (Txt.upper x)) := by
      show gd (decide (x.length ≤ 5592405)) _ = _
      rw [decide_eq_true (by omega)]; rfl
    have e3 : (Str.ofString "x").length = 1 := by decide
    simp [lim, ro_some, rv_mth, e1, e2, e3]
    refine ⟨by omega, ?_⟩
    refine t_of (n := n + 1) hu2 (by omega) (by simp) (by simp) ?_ fun v S' hv hu' ho' => ?_
    · simp [T.belL, T.bel]
    · have hv : V (k + 1) 0 400 v := by
        simp at hv
        rcases hv with rfl | rfl | rfl | rfl | rfl | rfl | rfl | rfl | rfl | rfl
        · exact a1.mono (by omega) (by omega) (by omega)
        · exact a2.mono (by omega) (by omega) (by omega)
        · exact a3.mono (by omega) (by omega) (by omega)
        all_goals exact (v_of (d := 0) (w := 200) (ts := [.str "swap", .str "load", .str "abcde", .str "fence", .str "lanes", .str "x1", .str "zz"]) (by decide +kernel) _ (by simp)).mono (by omega) (by omega) (by omega)
      exact gc_only hv.bel (ho2.trans ho') hu' (h v S' (hv.mono (by omega) (by omega) (by omega)) (hu'.mono (by omega)) (ho2.trans ho'))
  | non => exact bad rfl
  | int x => exact bad rfl
  | bl x => exact bad rfl
  | tup xs => exact bad rfl
  | vl xs => exact bad rfl
  | vd ks vs => exact bad rfl
  | _ => simp [T.neat] at hn
end Px.sh
end
section
set_option linter.all false
set_option maxRecDepth 100000
namespace Px.sh
open PySem Px
variable {tab : Str → Option Fn} [F__law_take tab]
theorem run_if_take2 {W n : Nat} {S S1 : Sto} {P : Fl × Env → Sto → Prop} {l B : Nat} {A A2 : Ex} {m : Int} {a ss : Sms} {ρ : Env} (b0 b1 : Bool) (hA : Run (ev ⟨callN tab W (n + 1), W⟩ A ρ S1) fun x S' => x = .bl b0 ∧ S' = S1) (hA2 : b0 = true → Run (ev ⟨callN tab W (n + 1), W⟩ A2 ρ S1) fun x S' => x = .bl b1 ∧ S' = S1) (h0 : ρ[0]? = some (some (.loc l))) (hm : 0 < m) (hm2 : m < 2 ^ 30)
    (hu : Ur l B S1) (ho : Only l S S1) (hB : B < 2 ^ 60) (hf : ∀ S2, Ur l (B + 1) S2 → Only l S S2 → Run (execs ⟨callN tab W (n + 1), W⟩ ss ρ S2) P) (ht : b0 = true → b1 = true → ∀ S2, Ur l (B + 1) S2 → Only l S S2 → Run (execs ⟨callN tab W (n + 1), W⟩ a ρ S2) (Nx ⟨callN tab W (n + 1), W⟩ ss P)) :
    Run (execs ⟨callN tab W (n + 1), W⟩ (.cons (.ife (.and A (.and A2 (.cmp .gt (.call "_law_take" (.cons (.loc 0) (.cons (.con (.int m)) .nil)) [] .nil) (.con (.int 0))))) a .nil) ss) ρ S1) P := by
  refine run_if ?_
  rw [rv_and]
  refine hA.mono fun x S' ⟨e1, e2⟩ => ?_
  subst e1 e2
  refine ⟨b0, rfl, ?_⟩
  cases b0 with
  | false =>
    rw [if_neg (by decide)]
    exact ⟨false, rfl, fun z => absurd z (by decide), fun _ => by rw [rxs_nil, nx_nx]; exact hf _ (hu.mono (by omega)) ho⟩
  | true =>
    rw [if_pos rfl, rv_and]
    refine (hA2 rfl).mono fun x S' ⟨e1, e2⟩ => ?_
    subst e1 e2
    refine ⟨b1, rfl, ?_⟩
    cases b1 with
    | false =>
      rw [if_neg (by decide)]
      exact ⟨false, rfl, fun z => absurd z (by decide), fun _ => by rw [rxs_nil, nx_nx]; exact hf _ (hu.mono (by omega)) ho⟩
    | true =>
      rw [if_pos rfl, rv_cmp, rv_call, rs_cons, rv_loc]
      refine ⟨_, h0, ?_⟩
      rw [rs_cons, rv_con, rs_nil, rs_nil]
      refine t_take hu hB hm hm2 fun r S2 _ _ hu2 ho2 => ?_
      rw [rv_con]
      exact ⟨decide (0 < r), rfl, decide (0 < r), rfl, fun _ => ht rfl rfl S2 hu2 (ho.trans ho2), fun _ => by rw [rxs_nil, nx_nx]; exact hf _ hu2 (ho.trans ho2)⟩
theorem run_par2 {C : Cfg} {i j : Nat} {a b : Ex} {ss : Sms} {ρ : Env} {S : Sto} {P : Fl × Env → Sto → Prop} (h : Run (ev C a ρ S) fun x S => Run (ev C b ρ S) fun y S => Run (execs C ss ((ρ.set i (some x)).set j (some y)) S) P) : Run (execs C (.cons (.par [i, j] (.cons a (.cons b .nil))) ss) ρ S) P := by
  rw [rxs_cons, rx_par, rs_cons]
  refine h.mono fun x S1 q => ?_
  rw [rs_cons]
  refine q.mono fun y S2 q2 => ?_
  rw [rs_nil]
  exact ⟨_, rfl, q2⟩
theorem ev_take {W n : Nat} {S1 : Sto} {P : T → Sto → Prop} {l B : Nat} {e : Ex} {m : Int} {ρ : Env} (he : ∀ S : Sto, Run (ev ⟨callN tab W (n + 1), W⟩ e ρ S) fun x S' => x = .int m ∧ S' = S) (h0 : ρ[0]? = some (some (.loc l))) (hu : Ur l B S1) (hB : B < 2 ^ 60) (hm : 0 < m) (hm2 : m < 2 ^ 30)
    (h : ∀ r S', 0 ≤ r → r < m → Ur l (B + 1) S' → Only l S1 S' → P (.int r) S') : Run (ev ⟨callN tab W (n + 1), W⟩ (.call "_law_take" (.cons (.loc 0) (.cons e .nil)) [] .nil) ρ S1) P := by
  rw [rv_call, rs_cons, rv_loc]
  refine ⟨_, h0, ?_⟩
  rw [rs_cons]
  refine (he S1).mono fun x S' ⟨e1, e2⟩ => ?_
  subst e1 e2
  rw [rs_nil, rs_nil]
  exact t_take hu hB hm hm2 h
variable [F__law_of tab] [F__law_odd tab] [F__law_bent tab]
def BentOk (tab : Str → Option Fn) (W d : Nat) : Prop := ∀ (n : Nat) (S : Sto) (P : T → Sto → Prop) (l B k w : Nat) (t : T), k ≤ 100 → V k d w t → w ≤ 200000 → Ur l B S → B + 100 * (d + 1) < 2 ^ 60 → (∀ v S', V (k + 1) (d + 9) (G d w) v → Ur l (B + 20 * (d + 1)) S' → Only l S S' → P v S') →
    Run (callN tab W (n + d + 4) "_law_bent" [.loc l, t] [] S) P
theorem t_bent_step {W d : Nat} (ih : ∀ d', d = d' + 1 → BentOk tab W d') : BentOk tab W d := by
    intro n S P l B k w t hk ht hw hu hB h
    refine run_call (n := n + d + 3) (fn := fn__law_bent) (as := [.loc l, t]) F__law_bent.h (by rfl) ?_
    show Run (execs _ b__law_bent [some (.loc l), some t, none, none, none] S) (Fin false S P)
    have hG := G_le d w
    have rest : ∀ S2, Ur l (B + 1) S2 → Only l S S2 → Run (execs ⟨callN tab W (n + d + 3), W⟩ (.cons s_str (.cons s_int s_odd)) [some (.loc l), some t, none, none, none] S2) (Fin false S P) := fun S2 hu2 ho2 =>
      t_bent_str (n := n + d) hk ht hu2 ho2 (by omega) fun v S' hv hu' ho' => h v S' (hv.mono (by omega) (by omega) (by omega)) (hu'.mono (by omega)) ho'
    have hn := ht.n
    unfold b__law_bent
    cases t with
    | tup xs =>
      cases d with
      | zero => exact absurd ht.d (by simp [T.dat, PyData.depth])
      | succ d =>
        have hxs := ht.tup
        refine run_if_take2 (S := S) (S1 := S) (P := Fin false S P) (n := n + (d + 1) + 2) (l := l) true (!xs.isEmpty) (by simp [isi_gd, tyOf, gd]) (fun _ => by
          have e : cmpT .ne (.tup xs) (.tup []) = some (!xs.isEmpty) := rfl
          simp [lim, e, -Bool.exists_bool]) rfl (by decide) (by decide) hu Only.refl (by omega) rest fun _ hne S2 hu2 ho2 => ?_
        have hne : xs ≠ [] := by rintro rfl; simp at hne
        have hl : 0 < xs.length := List.length_pos_iff.mpr hne
        have hlw : xs.length ≤ 200000 := by
          have := len_weight xs
          have := hxs.w
          omega
        refine run_par2 ?_
        refine ev_take (n := n + d + 3) (m := xs.length) (by simp) rfl hu2 (by omega) (by omega) (by omega) fun a S3 ha0 ha1 hu3 ho3 => ?_
        refine ev_take (n := n + d + 3) (m := 9) (by simp) rfl hu3 (by omega) (by omega) (by omega) fun b S4 hb0 hb1 hu4 ho4 => ?_
        have ho4' := (ho2.trans ho3).trans ho4
        show Run (execs _ _ [some (.loc l), some (.tup xs), some (.int a), some (.int b), none] S4) _
        refine run_if (run_v (.bl (decide (b < 5))) (by simp [-Bool.decide_eq_true, -Bool.exists_bool]) ⟨_, rfl, fun hb => ?_, fun hb => ?_⟩)
        · obtain ⟨u, hu', hu2'⟩ := at_lt ha0 ha1
          have hum := hxs.mem u (List.mem_of_getElem? hu2')
          have c1 : (cut xs none (some a)).length ≤ 200000 := Nat.le_trans (len_weight _) (Nat.le_trans (hxs.cut none (some a)).w hw)
          have c2 : (cut xs (some (a + 1)) none).length ≤ 200000 := Nat.le_trans (len_weight _) (Nat.le_trans (hxs.cut (some (a + 1)) none).w hw)
          have step := ih d rfl n S4 (fun v S' => Run (gc S (.tup (cut xs none (some a) ++ (v :: cut xs (some (a + 1)) none))) S') P) l (B + 1 + 1 + 1) k w u hk hum hw hu4 (by omega) fun v S' hv hu5 ho5 => by
            have hv2 : V (k + 1) (d + 1 + 9) (G (d + 1) w) (.tup (cut xs none (some a) ++ (v :: cut xs (some (a + 1)) none))) := by
              have q1 := (hxs.cut none (some a)).mono (k' := k + 1) (d' := d + 9) (w' := w) (by omega) (by omega) (by omega)
              have q2 := (hxs.cut (some (a + 1)) none).mono (k' := k + 1) (d' := d + 9) (w' := w) (by omega) (by omega) (by omega)
              refine (Vs.tup (q1.app (Vs.cons hv q2))).mono (by omega) (by omega) ?_
              show _ ≤ 2 * w + G d w + 1
              omega
            exact gc_only hv2.bel (ho4'.trans ho5) hu5 (h _ _ hv2 (hu5.mono (by omega)) (ho4'.trans ho5))
          simp [lim, ro_some, hu']
          refine step.mono fun v S' q => ?_
          exact ⟨by omega, by omega, q⟩
        · have hb : 5 ≤ b := by simpa using hb
          obtain ⟨u, hu', hu2'⟩ := at_lt (xs := [T.tup (cut xs none (some a) ++ cut xs (some (a + 1)) none), .tup (cut xs none (some (a + 1)) ++ cut xs (some a) none), .tup xs.reverse, .vl xs]) (i := b - 5) (by omega) (by simp; omega)
          have c1 : ∀ lo hi, (cut xs lo hi).length ≤ 200000 := fun lo hi => Nat.le_trans (len_weight _) (Nat.le_trans (hxs.cut lo hi).w hw)
          have hv : V (k + 1) (d + 1 + 9) (G (d + 1) w) u := by
            have hm := List.mem_of_getElem? hu2'
            have q : V k (d + 1) (w + w) u := by
              simp at hm
              rcases hm with rfl | rfl | rfl | rfl
              · exact Vs.tup ((hxs.cut _ _).app (hxs.cut _ _))
              · exact Vs.tup ((hxs.cut _ _).app (hxs.cut _ _))
              · exact (Vs.tup hxs.rev).mono (by omega) (by omega) (by omega)
              · exact (Vs.vl hxs).mono (by omega) (by omega) (by omega)
            exact q.mono (by omega) (by omega) (by omega)
          rw [rxs_nil, nx_nx]
          refine run_ret ?_
          have c2 := c1 none (some a)
          have c3 := c1 (some (a + 1)) none
          have c4 := c1 none (some (a + 1))
          have c5 := c1 (some a) none
          simp [lim, ro_some, hu']
          exact ⟨decide_eq_true (by omega), decide_eq_true (by omega), gc_only hv.bel ho4' hu4 (h _ _ hv (hu4.mono (by omega)) ho4')⟩
    | non => exact run_if_take2 (S := S) (S1 := S) (P := Fin false S P) (n := n + d + 2) (l := l) false false (by simp [isi_gd, tyOf, gd]) (fun z => by cases z) rfl (by decide) (by decide) hu Only.refl (by omega) rest (fun z => by cases z)
    | int x => exact run_if_take2 (S := S) (S1 := S) (P := Fin false S P) (n := n + d + 2) (l := l) false false (by simp [isi_gd, tyOf, gd]) (fun z => by cases z) rfl (by decide) (by decide) hu Only.refl (by omega) rest (fun z => by cases z)
    | bl x => exact run_if_take2 (S := S) (S1 := S) (P := Fin false S P) (n := n + d + 2) (l := l) false false (by simp [isi_gd, tyOf, gd]) (fun z => by cases z) rfl (by decide) (by decide) hu Only.refl (by omega) rest (fun z => by cases z)
    | str xs => exact run_if_take2 (S := S) (S1 := S) (P := Fin false S P) (n := n + d + 2) (l := l) false false (by simp [isi_gd, tyOf, gd]) (fun z => by cases z) rfl (by decide) (by decide) hu Only.refl (by omega) rest (fun z => by cases z)
    | vl xs => exact run_if_take2 (S := S) (S1 := S) (P := Fin false S P) (n := n + d + 2) (l := l) false false (by simp [isi_gd, tyOf, gd]) (fun z => by cases z) rfl (by decide) (by decide) hu Only.refl (by omega) rest (fun z => by cases z)
    | vd ks vs => exact run_if_take2 (S := S) (S1 := S) (P := Fin false S P) (n := n + d + 2) (l := l) false false (by simp [isi_gd, tyOf, gd]) (fun z => by cases z) rfl (by decide) (by decide) hu Only.refl (by omega) rest (fun z => by cases z)
    | _ => simp [T.neat] at hn
theorem t_bent {W : Nat} : ∀ d : Nat, BentOk tab W d
  | 0 => t_bent_step fun d' e => by cases e
  | d + 1 => t_bent_step fun d' e => by cases e; exact t_bent d
end Px.sh
end
section
set_option linter.all false
set_option maxRecDepth 100000
namespace Px.sh
open PySem Px
variable {tab : Str → Option Fn} {W n : Nat} {S : Sto} {P : T → Sto → Prop}
/-! ### the deep value -/
theorem t_deep [F__law_deep tab] (h : ∀ v, V 0 30 200 v → v.pure = true → (∃ a, idxT v (.int 0) = some a ∧ V 0 29 200 a) → P v S) : Run (callN tab W (n + 1) "_law_deep" [] [] S) P := by
  refine run_call (fn := fn__law_deep) (as := []) F__law_deep.h (by rfl) ?_
  show Run (execs _ b__law_deep [none, none] S) (Fin false S P)
  unfold b__law_deep
  refine run_asg ?_
  simp [lim]
  rw [← rxs_cons]
  refine run_for ?_
  simp
  refine run_forL (fun i ρ S' => S' = S ∧ ∃ f o, ρ = [some f, o] ∧ V 0 (i + 1) (4 * i) f ∧ (0 < i → 20 < i → ∃ a, f = .tup [a] ∧ V 0 i (4 * i) a)) _ 0 _ _ ⟨rfl, .tup [], none, rfl, ⟨by decide +kernel, by decide +kernel, by decide +kernel⟩, fun z => by omega⟩ ?_ ?_
  · rintro i x ρ S' hx ⟨rfl, f, o, rfl, hf, ha⟩
    obtain ⟨rfl, hi⟩ := rng_at hx
    rw [Nat.zero_add] at hf ha ⊢
    have hm := Int.emod_nonneg (0 + (i : Int)) (show (3 : Int) ≠ 0 by decide)
    have hm2 := Int.emod_lt_of_pos (0 + (i : Int)) (show (0 : Int) < 3 by decide)
    have b3 : bits 3 ≤ 2 := by decide
    have a1 : V 0 (i + 1) 1 (.str (Str.ofString "a")) := ⟨by decide +kernel, by simp [T.dat, PyData.depth], by decide +kernel⟩
    have hj : ∃ f', L2.atI [T.tup [f], T.vl [f], T.vd [T.str (Str.ofString "a")] [f]] ((i : Int) % 3 * (if (i : Int) < 20 then 1 else 0)) = some f' ∧ V 0 (i + 1 + 1) (4 * (i + 1)) f' ∧ (20 < i + 1 → f' = .tup [f]) := by
      rw [Int.zero_add] at hm hm2
      have h0 : 0 ≤ (i : Int) % 3 * (if (i : Int) < 20 then 1 else 0) := by split <;> omega
      have h1 : (i : Int) % 3 * (if (i : Int) < 20 then 1 else 0) < 3 := by split <;> omega
      obtain ⟨f', e1, e2⟩ := at_lt (xs := [T.tup [f], T.vl [f], T.vd [T.str (Str.ofString "a")] [f]]) h0 (by simpa using h1)
      refine ⟨f', e1, ?_, fun c => ?_⟩
      · have hm := List.mem_of_getElem? e2
        simp at hm
        rcases hm with rfl | rfl | rfl
        · exact (Vs.tup (Vs.cons hf (Vs.nil (w := 0)))).mono (by omega) (by omega) (by omega)
        · exact (Vs.vl (Vs.cons hf (Vs.nil (w := 0)))).mono (by omega) (by omega) (by omega)
        · exact (V.vd1 a1 hf).mono (by omega) (by omega) (by omega)
      · rw [if_neg (by omega)] at e1
        simp at e1
        exact e1.symm
    obtain ⟨f', e1, e2, e3⟩ := hj
    have bm : bits ((i : Int) % 3) ≤ 2 := bits_lt 2 (by
      rw [Int.zero_add] at hm hm2
      omega)
    have b1 : bits 1 ≤ 1 := by decide
    have b0 : bits 0 ≤ 1 := by decide
    refine run_asg (run_v f' ?_ ?_)
    · by_cases c : (i : Int) < 20
      · simp [c] at e1
        simp [lim, c, e1, -Bool.exists_bool]
        omega
      · simp [c] at e1
        simp [lim, c, e1, -Bool.exists_bool]
        omega
    · rw [rxs_nil]
      simp
      exact ⟨e2, fun c => ⟨f, e3 c, hf.mono (by omega) (by omega) (by omega)⟩⟩
  · rintro ρ S' ⟨rfl, f, o, rfl, hf, ha⟩
    rw [rng_len] at hf ha
    obtain ⟨a, rfl, ha2⟩ := ha (by decide) (by decide)
    simp
    rw [gc_eq hf.bel]
    refine h _ (hf.mono (by decide) (by decide) (by decide)) hf.pure ⟨a, by simp, ha2.mono (by decide) (by decide) (by decide)⟩
theorem t_urn [F__law_urn tab] {xs : List Int} {k : Int} (hk : 0 ≤ k) (hk2 : k < 100) (h : ∀ a b : Int, 0 ≤ a → 0 ≤ b → b < 2305843009213693952 → P (.loc S.length) (S ++ [.lst [.int a, .int b, .int 0]])) : Run (callN tab W (n + 1) "_law_urn" [.scr (xs.map .int), .int k] [] S) P := by
  refine run_call (fn := fn__law_urn) (as := [.scr (xs.map .int), .int k]) F__law_urn.h (by rfl) ?_
  show Run (execs _ b__law_urn [some (.scr (xs.map .int)), some (.int k), none, none] S) (Fin true S P)
  unfold b__law_urn
  have hc : ∃ c : Int, Run (ev ⟨callN tab W n, W⟩ (.ife (.cmp .lt (.loc 1) (.bif "len" (.cons (.loc 0) .nil))) (.idx (.loc 0) (.loc 1)) (.bin .add (.bin .mul (.con (.int 19)) (.loc 1)) (.con (.int 6)))) [some (.scr (xs.map .int)), some (.int k), none, none] S) fun x S' => x = .int c ∧ S' = S := by
    by_cases c : k < xs.length
    · obtain ⟨v, e1, e2⟩ := at_lt (xs := xs.map T.int) hk (by simpa using c)
      have hm := List.mem_of_getElem? e2
      simp at hm
      obtain ⟨z, _, rfl⟩ := hm
      exact ⟨z, by simp [c, e1, -Bool.exists_bool]⟩
    · have b1 : bits 19 ≤ 5 := by decide
      have b2 : bits k ≤ 7 := bits_lt 7 (by omega)
      exact ⟨19 * k + 6, by simp [c, -Bool.exists_bool]; omega⟩
  obtain ⟨c, hc⟩ := hc
  refine run_asg (run_v (.int c) hc ?_)
  generalize he : (if c < 0 then -c else c) = e
  have h0 : 0 ≤ e := by rw [← he]; split <;> omega
  have b1 : bits 10 ≤ 4 := by decide
  have b2 : bits (10 ^ 60) ≤ 200 := by decide
  have b3 : bits 48271 ≤ 16 := by decide
  have d1 : bits 1 ≤ 1 := by decide
  have d0 : bits 0 ≤ 1 := by decide
  have ha : ∃ a : Int, 0 ≤ a ∧ Run (ev ⟨callN tab W n, W⟩ (.bin .mul (.bin .mod (.bif "abs" (.cons (.loc 2) .nil)) (.bin .pow (.bin .pow (.con (.int 10)) (.con (.int 60))) (.con (.int 5)))) (.bty "int" (.cons (.cmp .ge (.bif "abs" (.cons (.loc 2) .nil)) (.bin .pow (.con (.int 10)) (.con (.int 18)))) .nil))) [some (.scr (xs.map .int)), some (.int k), some (.int c), none] S) fun x S' => x = .int a ∧ S' = S := by
    have key : ∀ M : Int, 0 < M → M < 2 ^ 200 * 2 ^ 200 * 2 ^ 200 * 2 ^ 200 * 2 ^ 200 → bits (e % M) ≤ 1000 := fun M m0 m1 => by
      have := Int.emod_nonneg e (show M ≠ 0 by omega)
      have := Int.emod_lt_of_pos e m0
      refine bits_lt 1000 ?_
      have z : (2 : Nat) ^ 1000 = 2 ^ 200 * 2 ^ 200 * 2 ^ 200 * 2 ^ 200 * 2 ^ 200 := by decide
      rw [z]
      omega
    have k1 : bits 10 * 60 < 900000 := by decide
    have k2 : bits 1000000000000000000000000000000000000000000000000000000000000 * 5 < 900000 := by decide
    have k3 : bits 10 * 18 < 900000 := by decide
    by_cases g : (1000000000000000000 : Int) ≤ e
    · refine ⟨e % (10 ^ 60) ^ 5 * 1, by rw [Int.mul_one]; exact Int.emod_nonneg _ (by decide), ?_⟩
      simp [he, g, k1, k2, k3, -Bool.exists_bool]
      rw [decide_eq_true (Nat.lt_of_le_of_lt (Nat.add_le_add (key _ (by decide) (by decide)) d1) (by decide))]
      simp
    · refine ⟨e % (10 ^ 60) ^ 5 * 0, by rw [Int.mul_zero]; decide, ?_⟩
      simp [he, g, k1, k2, k3, -Bool.exists_bool]
      rw [decide_eq_true (Nat.lt_of_le_of_lt (Nat.add_le_add (key _ (by decide) (by decide)) d0) (by decide))]
      simp
  obtain ⟨a, ha0, ha⟩ := ha
  refine run_asg (run_v (.int a) ha ?_)
  have e1 : bits (c % 2305843009213693951) ≤ 61 := bits_lt 61 (by
    have := Int.emod_nonneg c (show (2305843009213693951 : Int) ≠ 0 by decide)
    have := Int.emod_lt_of_pos c (show (0 : Int) < 2305843009213693951 by decide)
    omega)
  have e2 : bits 7027 ≤ 13 := by decide
  have e3 : bits k ≤ 7 := bits_lt 7 (by omega)
  have e4 := bits_mul 7027 k
  refine run_ret ?_
  simp [rv_new, lim]
  refine ⟨by omega, by omega, by omega, ?_⟩
  exact h _ _ ha0 (Int.emod_nonneg _ (by decide)) (Int.lt_trans (Int.emod_lt_of_pos _ (by decide)) (by decide))
/-! ### the law's own list, an object behind the urn's -/
structure Ri (l B m N : Nat) (S S' : Sto) (xs : List T) : Prop where
  at_ : S'[m]? = some (.lst xs)
  m : S.length ≤ m
  ur : Ur l B S'
  fr : ∀ i, i < S.length → i ≠ l → S'[i]? = S[i]?
  l : l < S.length
  v : ∀ x ∈ xs, V 2 60 190000 x
  n : xs.length ≤ N
theorem Ri.lt {l B m N : Nat} {S S' : Sto} {xs : List T} (r : Ri l B m N S S' xs) : m < S'.length := (List.getElem?_eq_some_iff.mp r.at_).1
theorem Ri.only {l B B' m N : Nat} {S S' S2 : Sto} {xs : List T} (r : Ri l B m N S S' xs) (ho : Only l S' S2) (hu : Ur l B' S2) : Ri l B' m N S S2 xs :=
  ⟨by rw [ho.2 m (by have := r.m; have := r.l; omega)]; exact r.at_, r.m, hu, fun i hi hn => by rw [ho.2 i hn]; exact r.fr i hi hn, r.l, r.v, r.n⟩
theorem Ri.set {l B m N N' : Nat} {S S' : Sto} {xs ys : List T} (r : Ri l B m N S S' xs) (hv : ∀ y ∈ ys, V 2 60 190000 y) (hn : ys.length ≤ N') : Ri l B m N' S (S'.set m (.lst ys)) ys := by
  refine ⟨by rw [List.getElem?_set_self r.lt], r.m, ?_, fun i hi hn => ?_, r.l, hv, hn⟩
  · obtain ⟨a, b, c, h1, h2⟩ := r.ur
    exact ⟨a, b, c, by rw [List.getElem?_set_ne (by have := r.m; have := r.l; omega)]; exact h1, h2⟩
  · rw [List.getElem?_set_ne (by have := r.m; omega)]
    exact r.fr i hi hn
theorem Ri.push {l B m N N' : Nat} {S S' : Sto} {xs ys : List T} (r : Ri l B m N S S' xs) (hv : ∀ y ∈ ys, V 2 60 190000 y) (hn : ys.length ≤ N') : Ri l B S'.length N' S (S' ++ [.lst ys]) ys := by
  have hm := r.lt
  refine ⟨by rw [List.getElem?_append_right (Nat.le_refl _), Nat.sub_self]; rfl, by have := r.m; omega, ?_, fun i hi hn => ?_, r.l, hv, hn⟩
  · obtain ⟨a, b, c, h1, h2⟩ := r.ur
    exact ⟨a, b, c, by rw [List.getElem?_append_left (by have := r.ur.lt; exact this)]; exact h1, h2⟩
  · rw [List.getElem?_append_left (by have := r.m; omega)]
    exact r.fr i hi hn
theorem ri_start {l B N : Nat} {S : Sto} (hu : Ur l B S) : Ri l B S.length N S (S ++ [.lst []]) [] := by
  refine ⟨by rw [List.getElem?_append_right (Nat.le_refl _), Nat.sub_self]; rfl, Nat.le_refl _, ?_, fun i hi hn => by rw [List.getElem?_append_left hi], hu.lt, by simp, by simp⟩
  obtain ⟨a, b, c, h1, h2⟩ := hu
  exact ⟨a, b, c, by rw [List.getElem?_append_left (List.getElem?_eq_some_iff.mp h1).1]; exact h1, h2⟩
theorem Ri.gc {l B m N : Nat} {S S' : Sto} {xs : List T} {b : Bool} {P : T → Sto → Prop} (r : Ri l B m N S S' xs) (h : ∀ S2, Ur l B S2 → Only l S S2 → P (.bl b) S2) : Run (gc S (.bl b) S') P := by
  have hm := r.lt
  have hm2 := r.m
  have hl := r.l
  have hlen : (S'.take S.length).length = S.length := by rw [List.length_take]; omega
  refine gc_run (by omega) (fun i hi => ?_) rfl (h _ ?_ ⟨hlen, fun i hn => ?_⟩)
  · by_cases e : i = l
    · subst e
      obtain ⟨a, b, c, h1, _⟩ := r.ur
      exact .inr ⟨_, h1, rfl⟩
    · exact .inl (r.fr i hi e)
  · obtain ⟨a, b, c, h1, h2⟩ := r.ur
    exact ⟨a, b, c, by rw [List.getElem?_take_of_lt hl]; exact h1, h2⟩
  · by_cases hi : i < S.length
    · rw [List.getElem?_take_of_lt hi]; exact r.fr i hi hn
    · rw [List.getElem?_eq_none (by omega), List.getElem?_eq_none (by omega)]
end Px.sh
end
section
set_option linter.all false
set_option maxRecDepth 100000
/-! Sh7: a law's check of one value, a law's end. -/
namespace Px.sh
open PySem Px
variable {tab : Str → Option Fn} {W n : Nat}
theorem ne_self {s : Str} : cmpT .ne (.str s) (.str s) = some false := by
  show (some (decide (s = s))).map (!·) = _
  simp
theorem repr_V {k d w : Nat} {t : T} (h : V k d w t) (hk : k ≤ 1000) (hd : d ≤ 150) (hw : w ≤ 1000000) : bifT "repr" [t] = some (.str t.dat.shown) := repr_neat h.n hk (Nat.le_trans h.d hd) (Nat.le_trans h.w hw)
theorem v_bls {b c : Bool} : V 0 1 10 (.vl [.bl b, .bl c]) := (Vs.vl (Vs.cons (v_bl (k := 0) (d := 0) (w := 0)) (Vs.cons (v_bl (w := 0)) (Vs.nil (w := 0))))).mono (by omega) (by omega) (by omega)
/-- kept, due = repr(x), g(x), and the test of f(x) -/
theorem t_check {C : Cfg} {ρ : Env} {S : Sto} {P : Fl × Env → Sto → Prop} {i j k : Nat} {f g p : Str} {x : T} {b : Bool} {ss : Sms} {kk d w : Nat} (hx : V kk d w x) (hk : kk ≤ 1000) (hd : d ≤ 150) (hw : w ≤ 1000000)
    (hi : ρ[i]? = some (some x)) (hj : j < ρ.length) (hk2 : k < ρ.length) (n1 : j ≠ i) (n2 : k ≠ i) (n3 : k ≠ j)
    (hg : ∀ Q : T → Sto → Prop, Q (.bl b) S → Run (C.fc g [x] [] S) Q) (hf : ∀ Q : T → Sto → Prop, Q (.bl b) S → Run (C.fc f [x] [] S) Q) (hf2 : ∀ Q : T → Sto → Prop, Q (.bl b) S → Run (C.fc f [] [(p, x)] S) Q)
    (h : Run (execs C ss ((ρ.set j (some (.str x.dat.shown))).set k (some (.bl b))) S) P) :
    Run (execs C (.cons (.par [j, k] (.cons (.bif "repr" (.cons (.loc i) .nil)) (.cons (.call g (.cons (.loc i) .nil) [] .nil) .nil)))
      (.cons (.ife (.or (.cmp .ne (.bif "repr" (.cons (.lst (.cons (.call f (.cons (.loc i) .nil) [] .nil) (.cons (.call f .nil [p] (.cons (.loc i) .nil)) .nil))) .nil)) (.bif "repr" (.cons (.lst (.cons (.loc k) (.cons (.loc k) .nil))) .nil))) (.cmp .ne (.bif "repr" (.cons (.loc i) .nil)) (.loc j))) (.cons (.ret (.con (.bl false))) .nil) .nil) ss)) ρ S) P := by
  have hr := repr_V hx hk hd hw
  refine run_par2 ?_
  rw [rv_bif, rs_cons, rv_loc]
  refine ⟨_, hi, ?_⟩
  rw [rs_nil]
  refine ⟨_, by rw [List.map_cons, List.map_nil, hx.vw]; exact hr, ?_⟩
  rw [rv_call, rs_cons, rv_loc]
  refine ⟨_, hi, ?_⟩
  rw [rs_nil, rs_nil]
  refine hg _ ?_
  generalize hρ : (ρ.set j (some (T.str x.dat.shown))).set k (some (.bl b)) = ρ' at h ⊢
  have e1 : ρ'[i]? = some (some x) := by rw [← hρ, List.getElem?_set_ne n2, List.getElem?_set_ne n1]; exact hi
  have e2 : ρ'[j]? = some (some (.str x.dat.shown)) := by rw [← hρ, List.getElem?_set_ne n3, List.getElem?_set_self hj]
  have e3 : ρ'[k]? = some (some (.bl b)) := by rw [← hρ, List.getElem?_set_self (by rw [List.length_set]; exact hk2)]
  have hb := repr_V (v_bls (b := b) (c := b)) (by decide) (by decide) (by decide)
  refine run_if (run_v (.bl false) ?_ ⟨_, rfl, fun z => (by cases z), fun _ => by rw [rxs_nil, nx_nx]; exact h⟩)
  rw [rv_or, rv_cmp, rv_bif, rs_cons, rv_lst, rs_cons, rv_call, rs_cons, rv_loc]
  refine ⟨_, e1, ?_⟩
  rw [rs_nil, rs_nil]
  refine hf _ ?_
  rw [rs_cons, rv_call, rs_nil, rs_cons, rv_loc]
  refine ⟨_, e1, ?_⟩
  rw [rs_nil]
  refine hf2 _ ?_
  rw [rs_nil]
  refine ⟨by simp [lim], ?_⟩
  rw [rs_nil]
  refine ⟨_, hb, ?_⟩
  rw [rv_bif, rs_cons, rv_lst, rs_cons, rv_loc]
  refine ⟨_, e3, ?_⟩
  rw [rs_cons, rv_loc]
  refine ⟨_, e3, ?_⟩
  rw [rs_nil]
  refine ⟨by simp [lim], ?_⟩
  rw [rs_nil]
  refine ⟨_, hb, false, ne_self, false, rfl, ?_⟩
  rw [if_neg (by decide), rv_cmp, rv_bif, rs_cons, rv_loc]
  refine ⟨_, e1, ?_⟩
  rw [rs_nil]
  refine ⟨_, by rw [List.map_cons, List.map_nil, hx.vw]; exact hr, ?_⟩
  rw [rv_loc]
  exact ⟨_, e2, false, ne_self, rfl, rfl⟩
theorem bls_rep : ∀ m : Nat, blsOf (List.replicate m (.bl true)) = some (List.replicate m true)
  | 0 => rfl
  | m + 1 => by rw [List.replicate_succ, List.replicate_succ]; show (blsOf _).map _ = _; rw [bls_rep m]; rfl
/-- all([right(urn(script, k)) for k in range(max(1, min(3, len(script))))]) -/
theorem t_law [F_law tab] [F__law_urn tab] {ns : List Int}
    (hR : ∀ (S : Sto) (l : Nat) (P : T → Sto → Prop), Ur l 0 S → (∀ S', P (.bl true) S') → Run (callN tab W (n + 1) "_law_right" [.loc l] [] S) P) :
    ∃ S', runF tab W (n + 2) fn_law [.scr (ns.map .int)] [] = .ok (.bl true) S' := by
  have key : Run (callN tab W (n + 2) "law" [.scr (ns.map .int)] [] []) fun v S' => v = .bl true := by
    refine run_call (fn := fn_law) (as := [.scr (ns.map .int)]) F_law.h (by rfl) ?_
    show Run (execs _ b_law [some (.scr (ns.map .int)), none] []) (Fin false [] _)
    unfold b_law
    refine run_ret ?_
    rw [rv_bif, rs_cons, rv_comp]
    have hj : ∃ j : Int, 0 ≤ j ∧ j ≤ 3 ∧ ∀ P : List T → Sto → Prop, P [.int j] [] → Run (evs ⟨callN tab W (n + 1), W⟩ (.cons (.bif "max" (.cons (.con (.int 1)) (.cons (.bif "min" (.cons (.con (.int 3)) (.cons (.bif "len" (.cons (.loc 0) .nil)) .nil))) .nil))) .nil) [some (.scr (ns.map .int)), none] []) P := by
      by_cases c : ns.length < 3
      · by_cases c2 : 1 < ns.length
        · exact ⟨ns.length, by omega, by omega, fun P h => by simp [show ¬ (3 : Int) ≤ ns.length by omega, show (ns.length : Int) < 3 by omega, show 1 < (ns.length : Int) by omega]; exact h⟩
        · exact ⟨1, by omega, by omega, fun P h => by simp [show (ns.length : Int) < 3 by omega, show ¬ 1 < (ns.length : Int) by omega, -gt_iff_lt, show ¬ (ns.length : Int) > 1 by omega]; exact h⟩
      · exact ⟨3, by omega, by omega, fun P h => by simp [show ¬ (ns.length : Int) < 3 by omega]; exact h⟩
    obtain ⟨j, j0, j3, hj⟩ := hj
    rw [ri_range]
    refine hj _ ?_
    rw [rangeT_1]
    refine ⟨_, by rw [decide_eq_true (by omega), decide_eq_true (by omega)]; rfl, ?_⟩
    refine run_compL (fun i acc S => acc = List.replicate i (.bl true)) _ 0 _ _ rfl ?_ ?_
    · rintro i x acc S hx ha
      obtain ⟨rfl, hi⟩ := rng_at hx
      rw [Nat.zero_add] at ha ⊢
      subst ha
      rw [rv_bind, rv_opt]
      refine ⟨_, rfl, ?_⟩
      rw [rv_bind, rc_nil, if_pos rfl, rv_bind, rv_call, rs_cons, rv_call, rs_cons, rv_loc]
      refine ⟨_, rfl, ?_⟩
      rw [rs_cons, rv_loc]
      refine ⟨_, rfl, ?_⟩
      rw [rs_nil, rs_nil]
      refine t_urn (by omega) (by omega) fun a b ha hb hb2 => ?_
      rw [rs_nil, rs_nil]
      refine hR _ _ _ ⟨a, b, 0, by rw [List.getElem?_append_right (Nat.le_refl _), Nat.sub_self]; rfl, ha, hb, hb2, by omega, by omega⟩ fun S' => ?_
      rw [rv_ok]
      refine ⟨trivial, ?_⟩
      show _ ++ [T.bl true] = _
      rw [List.replicate_succ']
    · rintro acc S rfl
      rw [rng_len]
      refine ⟨by simp [lim]; omega, ?_⟩
      rw [rs_nil]
      refine ⟨.bl true, ?_, ?_⟩
      · show bifT "all" [.vl _] = _
        rw [bif_all, bls_rep]
        simp
      · rw [fin_rt']
        exact gc_run (Nat.zero_le _) (fun i hi => absurd hi (Nat.not_lt_zero _)) rfl rfl
  rw [callN_eq F_law.h] at key
  obtain ⟨v, S', e, rfl⟩ := key.get
  exact ⟨S', e⟩
end Px.sh
end
section
set_option linter.all false
set_option maxRecDepth 100000
/-! Sh8: frames of a function that has objects of its own; drawn names, instructions, programs. -/
namespace Px.sh
open PySem L2 Px
def b__law_names : Sms := (.cons (.par [2, 3] (.cons (.new (.lst (.cons (.con (.str "x")) (.cons (.con (.str "y")) (.cons (.con (.str "z")) (.cons (.con (.str "ab")) (.cons (.con (.str "flag")) (.cons (.con (.str "head")) (.cons (.con (.str "q")) (.cons (.con (.str "aaaa")) .nil)))))))))) (.cons (.new (.lst .nil)) .nil)))
  (.cons (.whl (.cmp .lt (.bif "len" (.cons (.loc 3) .nil)) (.loc 1)) (.cons (.exp (.mth (.loc 3) "append" (.cons (.mth (.loc 2) "pop" (.cons (.call "_law_take" (.cons (.loc 0) (.cons (.bif "len" (.cons (.loc 2) .nil)) .nil)) [] .nil) .nil)) .nil)))
  .nil))
  (.cons (.ret (.loc 3))
  .nil)))
def fn__law_names : Fn := ⟨["_law_urn_here", "_law_many"], 4, false, b__law_names⟩
class F__law_names (tab : Str → Option Fn) : Prop where h : tab "_law_names" = some fn__law_names
def b__law_instruction : Sms := (.cons (.asg (.nm 2) (.call "_law_take" (.cons (.loc 0) (.cons (.con (.int 12)) .nil)) [] .nil))
  (.cons (.ife (.cmp .eq (.loc 2) (.con (.int 11))) (.cons (.ret (.tup (.cons (.con (.str "fence")) .nil)))
  .nil) .nil)
  (.cons (.ret (.tup (.cons (.idx (.lst (.cons (.con (.str "store")) (.cons (.con (.str "load")) (.cons (.con (.str "swap")) .nil)))) (.bin .add (.bty "int" (.cons (.cmp .gt (.loc 2) (.con (.int 4))) .nil)) (.bty "int" (.cons (.cmp .gt (.loc 2) (.con (.int 9))) .nil)))) (.cons (.call "_law_of" (.cons (.loc 0) (.cons (.loc 1) .nil)) [] .nil) .nil))))
  .nil)))
def fn__law_instruction : Fn := ⟨["_law_urn_here", "_law_names_here"], 3, false, b__law_instruction⟩
class F__law_instruction (tab : Str → Option Fn) : Prop where h : tab "_law_instruction" = some fn__law_instruction
def b__law_plan : Sms := (.cons (.asg (.nm 4) (.call "_law_names" (.cons (.loc 0) (.cons (.bin .add (.con (.int 1)) (.call "_law_take" (.cons (.loc 0) (.cons (.loc 3) .nil)) [] .nil)) .nil)) [] .nil))
  (.cons (.asg (.nm 5) (.new (.lst .nil)))
  (.cons (.for (.nm 6) (.range (.cons (.bin .add (.con (.int 1)) (.call "_law_take" (.cons (.loc 0) (.cons (.loc 1) .nil)) [] .nil)) .nil)) (.cons (.exp (.mth (.loc 5) "append" (.cons (.bty "tuple" (.cons (.comp [7] (.nm 7) (.range (.cons (.call "_law_take" (.cons (.loc 0) (.cons (.bin .add (.loc 2) (.con (.int 1))) .nil)) [] .nil) .nil)) .nil (.call "_law_instruction" (.cons (.loc 0) (.cons (.loc 4) .nil)) [] .nil)) .nil)) .nil)))
  .nil))
  (.cons (.ret (.bty "tuple" (.cons (.loc 5) .nil)))
  .nil))))
def fn__law_plan : Fn := ⟨["_law_urn_here", "_law_threads", "_law_most", "_law_names_most"], 8, false, b__law_plan⟩
class F__law_plan (tab : Str → Option Fn) : Prop where h : tab "_law_plan" = some fn__law_plan
def b__law_near : Sms := (.cons (.asg (.nm 1) (.call "_law_names" (.cons (.loc 0) (.cons (.con (.int 4)) .nil)) [] .nil))
  (.cons (.asg (.tps [2, 3, 4]) (.slc (.loc 1) .none (.some (.con (.int 3)))))
  (.cons (.asg (.nm 5) (.new (.lst (.cons (.tup (.cons (.tup (.cons (.tup (.cons (.con (.str "store")) (.cons (.loc 2) .nil))) (.cons (.tup (.cons (.con (.str "load")) (.cons (.loc 3) .nil))) .nil))) (.cons (.tup (.cons (.tup (.cons (.con (.str "store")) (.cons (.loc 3) .nil))) (.cons (.tup (.cons (.con (.str "load")) (.cons (.loc 2) .nil))) .nil))) .nil))) .nil))))
  (.cons (.exp (.mth (.loc 5) "append" (.cons (.tup (.cons (.tup (.cons (.tup (.cons (.con (.str "store")) (.cons (.loc 2) .nil))) (.cons (.tup (.cons (.con (.str "store")) (.cons (.loc 3) .nil))) .nil))) (.cons (.tup (.cons (.tup (.cons (.con (.str "load")) (.cons (.loc 3) .nil))) (.cons (.tup (.cons (.con (.str "load")) (.cons (.loc 2) .nil))) .nil))) .nil))) .nil)))
  (.cons (.exp (.mth (.loc 5) "append" (.cons (.tup (.cons (.tup (.cons (.tup (.cons (.con (.str "store")) (.cons (.loc 2) .nil))) (.cons (.tup (.cons (.con (.str "load")) (.cons (.loc 3) .nil))) .nil))) (.cons (.tup (.cons (.tup (.cons (.con (.str "store")) (.cons (.loc 3) .nil))) .nil)) (.cons (.tup (.cons (.tup (.cons (.con (.str "load")) (.cons (.loc 3) .nil))) (.cons (.tup (.cons (.con (.str "load")) (.cons (.loc 2) .nil))) .nil))) .nil)))) .nil)))
  (.cons (.exp (.mth (.loc 5) "append" (.cons (.tup (.cons (.tup (.cons (.tup (.cons (.con (.str "store")) (.cons (.loc 2) .nil))) (.cons (.tup (.cons (.con (.str "load")) (.cons (.loc 3) .nil))) .nil))) (.cons (.tup (.cons (.tup (.cons (.con (.str "store")) (.cons (.loc 3) .nil))) (.cons (.tup (.cons (.con (.str "store")) (.cons (.loc 2) .nil))) .nil))) .nil))) .nil)))
  (.cons (.exp (.mth (.loc 5) "append" (.cons (.tup (.cons (.tup (.cons (.tup (.cons (.con (.str "store")) (.cons (.loc 2) .nil))) (.cons (.tup (.cons (.con (.str "load")) (.cons (.loc 3) .nil))) .nil))) (.cons (.tup (.cons (.tup (.cons (.con (.str "store")) (.cons (.loc 3) .nil))) (.cons (.tup (.cons (.con (.str "load")) (.cons (.loc 4) .nil))) .nil))) (.cons (.tup (.cons (.tup (.cons (.con (.str "store")) (.cons (.loc 4) .nil))) (.cons (.tup (.cons (.con (.str "load")) (.cons (.loc 2) .nil))) .nil))) .nil)))) .nil)))
  (.cons (.exp (.mth (.loc 5) "append" (.cons (.tup (.cons (.tup (.cons (.tup (.cons (.con (.str "store")) (.cons (.loc 2) .nil))) (.cons (.tup (.cons (.con (.str "store")) (.cons (.loc 3) .nil))) .nil))) (.cons (.tup (.cons (.tup (.cons (.con (.str "store")) (.cons (.loc 3) .nil))) (.cons (.tup (.cons (.con (.str "store")) (.cons (.loc 2) .nil))) .nil))) .nil))) .nil)))
  (.cons (.asg (.nm 6) (.comp [8] (.nm 8) (.plain (.call "_law_of" (.cons (.loc 0) (.cons (.loc 5) .nil)) [] .nil)) .nil (.new (.bty "list" (.cons (.loc 8) .nil)))))
  (.cons (.for (.nm 7) (.range (.cons (.call "_law_take" (.cons (.loc 0) (.cons (.con (.int 5)) .nil)) [] .nil) .nil)) (.cons (.asg (.nm 8) (.call "_law_of" (.cons (.loc 0) (.cons (.loc 6) .nil)) [] .nil))
  (.cons (.asg (.nm 9) (.call "_law_take" (.cons (.loc 0) (.cons (.bin .add (.bif "len" (.cons (.loc 8) .nil)) (.con (.int 1))) .nil)) [] .nil))
  (.cons (.ife (.and (.cmp .eq (.call "_law_take" (.cons (.loc 0) (.cons (.con (.int 4)) .nil)) [] .nil) (.con (.int 0))) (.cmp .ne (.loc 8) (.lst .nil))) (.cons (.exp (.mth (.loc 8) "pop" (.cons (.bin .mod (.loc 9) (.bif "len" (.cons (.loc 8) .nil))) .nil)))
  .nil) (.cons (.exp (.mth (.loc 8) "insert" (.cons (.loc 9) (.cons (.call "_law_instruction" (.cons (.loc 0) (.cons (.loc 1) .nil)) [] .nil) .nil))))
  .nil))
  .nil))))
  (.cons (.ret (.bty "tuple" (.cons (.comp [8] (.nm 8) (.plain (.loc 6)) .nil (.bty "tuple" (.cons (.loc 8) .nil))) .nil)))
  .nil)))))))))))
def fn__law_near : Fn := ⟨["_law_urn_here"], 10, false, b__law_near⟩
class F__law_near (tab : Str → Option Fn) : Prop where h : tab "_law_near" = some fn__law_near
/-! ### frames -/
/-- what a body that may draw and has objects of its own leaves of S -/
structure Fm (l B : Nat) (S S' : Sto) : Prop where
  ur : Ur l B S'
  len : S.length ≤ S'.length
  fr : ∀ i, i < S.length → i ≠ l → S'[i]? = S[i]?
  l : l < S.length
section
variable {l B B' m : Nat} {S S' S2 : Sto} {o : Ob}
theorem Fm.start (hu : Ur l B S) : Fm l B S S := ⟨hu, Nat.le_refl _, fun _ _ _ => rfl, hu.lt⟩
theorem Fm.only (r : Fm l B S S') (ho : Only l S' S2) (hu : Ur l B' S2) : Fm l B' S S2 := ⟨hu, by rw [ho.1]; exact r.len, fun i hi hn => (ho.2 i hn).trans (r.fr i hi hn), r.l⟩
theorem Fm.mono (r : Fm l B S S') (h : B ≤ B') : Fm l B' S S' := ⟨r.ur.mono h, r.len, r.fr, r.l⟩
theorem Fm.ne (r : Fm l B S S') (hm : S.length ≤ m) : m ≠ l := by have := r.l; omega
theorem ur_ne {m : Nat} (hu : Ur l B S) (h : m ≠ l) : Ur l B (S.set m o) := by
  obtain ⟨a, b, c, h1, h2⟩ := hu
  exact ⟨a, b, c, by rw [List.getElem?_set_ne h]; exact h1, h2⟩
theorem ur_push (hu : Ur l B S) : Ur l B (S ++ [o]) := by
  have := hu.lt
  obtain ⟨a, b, c, h1, h2⟩ := hu
  exact ⟨a, b, c, by rw [List.getElem?_append_left this]; exact h1, h2⟩
theorem Fm.set (r : Fm l B S S') (hm : S.length ≤ m) : Fm l B S (S'.set m o) := ⟨ur_ne r.ur (r.ne hm), by rw [List.length_set]; exact r.len, fun i hi hn => by rw [List.getElem?_set_ne (by omega)]; exact r.fr i hi hn, r.l⟩
theorem Fm.push (r : Fm l B S S') : Fm l B S (S' ++ [o]) := ⟨ur_push r.ur, by rw [List.length_append]; have := r.len; omega, fun i hi hn => by rw [List.getElem?_append_left (by have := r.len; omega)]; exact r.fr i hi hn, r.l⟩
theorem Fm.back (r : Fm l B S S') : Ur l B (S'.take S.length) ∧ Only l S (S'.take S.length) := by
  have hlen : (S'.take S.length).length = S.length := by rw [List.length_take]; have := r.len; omega
  refine ⟨?_, hlen, fun i hn => ?_⟩
  · obtain ⟨a, b, c, h1, h2⟩ := r.ur
    exact ⟨a, b, c, by rw [List.getElem?_take_of_lt r.l]; exact h1, h2⟩
  · by_cases hi : i < S.length
    · rw [List.getElem?_take_of_lt hi]; exact r.fr i hi hn
    · rw [List.getElem?_eq_none (by omega), List.getElem?_eq_none (by omega)]
theorem Fm.olds (r : Fm l B S S') : ∀ i, i < S.length → S'[i]? = S[i]? ∨ ∃ o, S'[i]? = some o ∧ o.bel S.length = true := fun i hi => by
  by_cases e : i = l
  · subst e
    obtain ⟨a, b, c, h1, _⟩ := r.ur
    exact .inr ⟨_, h1, rfl⟩
  · exact .inl (r.fr i hi e)
theorem Fm.gc {v : T} {P : T → Sto → Prop} (r : Fm l B S S') (hv : v.bel S.length = true) (h : ∀ S2, Ur l B S2 → Only l S S2 → P v S2) : Run (gc S v S') P :=
  gc_run r.len r.olds hv (h _ r.back.1 r.back.2)
/-- a list of one's own is handed back -/
theorem Fm.gcL {xs : List T} {P : T → Sto → Prop} (r : Fm l B S S') (hm : S.length ≤ m) (hx : S'[m]? = some (.lst xs)) (hv : T.belL S.length xs = true) (h : ∀ S2, Ur l B S2 → Only l S S2 → P (.vl xs) S2) : Run (Px.gc S (.loc m) S') P := by
  unfold Px.gc
  rw [if_pos ⟨r.olds, r.len⟩, if_neg (by simp [T.bel]; omega)]
  simp only [hx]
  rw [if_pos hv]
  exact h _ r.back.1 r.back.2
theorem _root_.Px.Only.at (ho : Only l S S') (h : S[m]? = some o) (hm : m ≠ l) : S'[m]? = some o := (ho.2 m hm).trans h
theorem at_new : (S ++ [o])[S.length]? = some o := by rw [List.getElem?_append_right (Nat.le_refl _), Nat.sub_self]; rfl
theorem at_old {u : Ob} (h : S[m]? = some u) : (S ++ [o])[m]? = some u := by rw [List.getElem?_append_left (List.getElem?_eq_some_iff.mp h).1]; exact h
theorem at_set {u : Ob} (h : S[m]? = some u) : (S.set m o)[m]? = some o := by rw [List.getElem?_set_self (List.getElem?_eq_some_iff.mp h).1]
theorem at_setne {k : Nat} {u : Ob} (h : S[m]? = some u) (n : k ≠ m) : (S.set k o)[m]? = some u := by rw [List.getElem?_set_ne n]; exact h
theorem at_lt' {u : Ob} (h : S[m]? = some u) : m < S.length := (List.getElem?_eq_some_iff.mp h).1
end
/-! ### while -/
/-- behind a turn of a while -/
def WTurn (I : Nat → Env → Sto → Prop) (k : Nat) (P : Fl × Env → Sto → Prop) : Fl × Env → Sto → Prop := fun r S1 => match r.1 with
  | .nx => ∃ k', k' < k ∧ I k' r.2 S1
  | .ct => ∃ k', k' < k ∧ I k' r.2 S1
  | .bk => P (.nx, r.2) S1
  | .rt v => P (.rt v, r.2) S1
@[simp] theorem wturn_nx {I k P ρ S} : WTurn I k P (.nx, ρ) S = ∃ k', k' < k ∧ I k' ρ S := rfl
theorem run_whlN {c : Env → Sto → R Bool} {b : Env → Sto → R (Fl × Env)} {P : Fl × Env → Sto → Prop} (I : Nat → Env → Sto → Prop)
    (st : ∀ k ρ S, I k ρ S → Run (c ρ S) fun t S1 => (t = true → Run (b ρ S1) (WTurn I k P)) ∧ (t = false → P (.nx, ρ) S1)) : ∀ (n k : Nat) (ρ : Env) (S : Sto), I k ρ S → k < n → Run (whlN c b n ρ S) P
  | 0, k, ρ, S, _, h => absurd h (Nat.not_lt_zero _)
  | n + 1, k, ρ, S, hi, hk => by
    unfold whlN
    rw [run_bind]
    refine (st k ρ S hi).mono fun t S1 ⟨h1, h2⟩ => ?_
    cases t with
    | false => rw [if_neg (by decide)]; exact h2 rfl
    | true =>
      rw [if_pos rfl, run_bind]
      refine (h1 rfl).mono fun r S2 q => ?_
      obtain ⟨f, ρ2⟩ := r
      cases f with
      | nx => obtain ⟨k', lt, q⟩ := q; exact run_whlN I st n k' ρ2 S2 q (by omega)
      | ct => obtain ⟨k', lt, q⟩ := q; exact run_whlN I st n k' ρ2 S2 q (by omega)
      | bk => exact q
      | rt v => exact q
theorem run_whl {C : Cfg} {c : Ex} {b ss : Sms} {ρ : Env} {S : Sto} {P : Fl × Env → Sto → Prop} (I : Nat → Env → Sto → Prop) (k : Nat) (hk : k < C.W) (h0 : I k ρ S)
    (st : ∀ k ρ S, I k ρ S → Run (ev C c ρ S) fun x S1 => ∃ t, tru (vw S1 x) = some t ∧ (t = true → Run (execs C b ρ S1) (WTurn I k (Nx C ss P))) ∧ (t = false → Run (execs C ss ρ S1) P)) : Run (execs C (.cons (.whl c b) ss) ρ S) P := by
  rw [rxs_cons, rx_whl]
  refine run_whlN I (fun k ρ S hi => ?_) C.W k ρ S h0 hk
  rw [rv_bind]
  refine (st k ρ S hi).mono fun x S1 ⟨t, ht, h1, h2⟩ => ?_
  rw [rv_tru]
  exact ⟨t, ht, h1, h2⟩
/-! ### pure comprehensions -/
theorem stays_self {l : Option Nat} {S : Sto} : stays l S S := by cases l <;> first | trivial | rfl
theorem run_compP {l : Option Nat} {S : Sto} {body : T → Sto → R (Option T)} {P : List T → Sto → Prop} (g : T → Option T) {xs : List T} (hl : xs.length ≤ lim) (hb : ∀ x ∈ xs, Run (body x S) fun r S1 => r = g x ∧ S1 = S) (h : P (xs.filterMap g) S) : Run (compL l S body xs [] S) P := by
  refine run_compL (fun i acc S1 => acc = (xs.take i).filterMap g ∧ S1 = S) xs 0 [] S ⟨rfl, rfl⟩ ?_ ?_
  · rintro i x acc S1 hx ⟨rfl, rfl⟩
    refine (hb x (List.mem_of_getElem? hx)).mono fun r S2 ⟨e1, e2⟩ => ?_
    subst e1 e2
    refine ⟨stays_self, ?_, rfl⟩
    rw [Nat.zero_add, List.take_add_one, hx, List.filterMap_append]
    cases e : g x <;> simp [e]
  · rintro acc S1 ⟨rfl, rfl⟩
    rw [Nat.zero_add, List.take_length]
    exact ⟨Nat.le_trans (List.length_filterMap_le _ _) hl, h⟩
end Px.sh
end
section
set_option linter.all false
set_option maxRecDepth 100000
/-! Sh9: drawn names. -/
namespace Px.sh
open PySem Px
variable {tab : Str → Option Fn} {W n : Nat} {S : Sto} {P : T → Sto → Prop}
theorem ixn_nat {n k : Nat} (h : k < n) : L2.ixN n (k : Int) = some k := by
  unfold L2.ixN
  rw [if_pos (by omega), if_pos (by omega)]
  simp
theorem mthS_pop {l : Nat} {xs : List T} {i : Int} : mthS "pop" l xs [.int i] S = (match gd (decide (-4611686018427387904 < i) && decide (i < 4611686018427387904)) () |>.bind fun _ => L2.ixN xs.length i with
      | some k => (match xs[k]? with
        | some v => R.ok v (S.set l (.lst (xs.eraseIdx k)))
        | none => .bad)
      | none => .bad) := by
  unfold mthS
  rw [if_neg (by decide), if_neg (by decide), if_pos rfl] <;> rfl
theorem mth_popN {l : Nat} {xs : List T} {k : Nat} {v : T} (h : xs[k]? = some v) (hk : k < 1000000) : mthS "pop" l xs [.int k] S = .ok v (S.set l (.lst (xs.eraseIdx k))) := by
  have hl : k < xs.length := (List.getElem?_eq_some_iff.mp h).1
  have b1 : (-4611686018427387904 : Int) < (k : Int) := by omega
  have b2 : (k : Int) < 4611686018427387904 := by omega
  rw [mthS_pop, decide_eq_true b1, decide_eq_true b2]
  show (match (some ()).bind fun _ => L2.ixN xs.length (k : Int) with
      | some k => (match xs[k]? with
        | some v => R.ok v (S.set l (.lst (xs.eraseIdx k)))
        | none => .bad)
      | none => .bad) = _
  rw [Option.bind_some, ixn_nat hl]
  dsimp only
  rw [h]
theorem mth_ext {l : Nat} {xs ys : List T} (h : xs.length + ys.length ≤ lim) : mthS "extend" l xs [.vl ys] S = .ok .non (S.set l (.lst (xs ++ ys))) := by
  show (if xs.length + ys.length ≤ lim then _ else _) = _
  rw [if_pos h]
theorem mth_app {l : Nat} {xs : List T} {t : T} (h : xs.length < lim) : mthS "append" l xs [t] S = .ok .non (S.set l (.lst (xs ++ [t]))) := by
  show (if xs.length < lim then _ else _) = _
  rw [if_pos h]
theorem mth_ins {l : Nat} {xs : List T} {k : Nat} {t : T} (h : xs.length < lim) (hk : k < 1000000) : mthS "insert" l xs [.int k, t] S = .ok .non (S.set l (.lst (xs.take k ++ t :: xs.drop k))) := by
  have b1 : (0 : Int) ≤ (k : Int) := by omega
  have b2 : (k : Int) < 4611686018427387904 := by omega
  unfold mthS
  rw [if_neg (by decide), if_neg (by decide), if_neg (by decide), if_pos rfl]
  dsimp only
  rw [if_pos ⟨b1, b2, h⟩, Int.toNat_natCast]
theorem belL_str {k : Nat} : ∀ N : List Str, T.belL k (N.map .str) = true
  | [] => rfl
  | x :: xs => by
    show (T.bel k (.str x) && T.belL k (xs.map .str)) = true
    rw [belL_str xs]; rfl
theorem ev_take1 [F__law_take tab] {S1 : Sto} {P : T → Sto → Prop} {l B : Nat} {e : Ex} {m : Int} {ρ : Env} (he : Run (ev ⟨callN tab W (n + 1), W⟩ e ρ S1) fun x S' => x = .int m ∧ S' = S1) (h0 : ρ[0]? = some (some (.loc l))) (hu : Ur l B S1) (hB : B < 2 ^ 60) (hm : 0 < m) (hm2 : m < 2 ^ 30)
    (h : ∀ r S', 0 ≤ r → r < m → Ur l (B + 1) S' → Only l S1 S' → P (.int r) S') : Run (ev ⟨callN tab W (n + 1), W⟩ (.call "_law_take" (.cons (.loc 0) (.cons e .nil)) [] .nil) ρ S1) P := by
  rw [rv_call, rs_cons, rv_loc]
  refine ⟨_, h0, ?_⟩
  rw [rs_cons]
  refine run_v _ he ?_
  rw [rs_nil, rs_nil]
  exact t_take hu hB hm hm2 h
theorem erase_perm {α : Type} : ∀ {l : List α} {k : Nat} (hk : k < l.length), (l[k] :: l.eraseIdx k).Perm l
  | x :: xs, 0, _ => .refl _
  | x :: xs, k + 1, h => (List.Perm.swap x _ _).trans ((erase_perm (l := xs) (by simpa using h)).cons x)
theorem erase_map {α β : Type} (f : α → β) : ∀ (l : List α) (k : Nat), (l.map f).eraseIdx k = (l.eraseIdx k).map f
  | [], _ => rfl
  | x :: xs, 0 => rfl
  | x :: xs, k + 1 => by
    show f x :: (xs.map f).eraseIdx k = f x :: (xs.eraseIdx k).map f
    rw [erase_map f xs k]
def pool : List Str := ["x", "y", "z", "ab", "flag", "head", "q", "aaaa"]
theorem t_names [F__law_take tab] [F__law_names tab] {l B m : Nat} (hu : Ur l B S) (hB : B < 2 ^ 59) (hm : m ≤ 8) (hW : 8 < W) (h : ∀ (N : List Str) S', N.length = m → N.Nodup → (∀ x ∈ N, x ∈ pool) → Ur l (B + 8) S' → Only l S S' → P (.vl (N.map .str)) S') :
    Run (callN tab W (n + 2) "_law_names" [.loc l, .int m] [] S) P := by
  refine run_call (fn := fn__law_names) (as := [.loc l, .int m]) F__law_names.h (by rfl) ?_
  show Run (execs _ b__law_names [some (.loc l), some (.int m), none, none] S) (Fin false S P)
  unfold b__law_names
  have hl := hu.lt
  refine run_par2 ?_
  rw [rv_new]
  refine run_v (.vl (pool.map .str)) (by simp [lim]; rfl) ?_
  rw [rv_newv, rv_new, rv_lst, rs_nil]
  refine ⟨by simp [lim], ?_⟩
  rw [rv_newv]
  have hm1 : (S ++ [Ob.lst (pool.map .str)] ++ [Ob.lst []])[S.length]? = some (.lst (pool.map .str)) := at_old at_new
  have hm2 : (S ++ [Ob.lst (pool.map .str)] ++ [Ob.lst []])[S.length + 1]? = some (.lst []) := by
    have := at_new (S := S ++ [Ob.lst (pool.map .str)]) (o := Ob.lst [])
    rw [List.length_append] at this
    exact this
  rw [List.length_append]
  show Run (execs _ _ [some (.loc l), some (.int m), some (.loc S.length), some (.loc (S.length + 1))] _) _
  generalize hS1 : S ++ [Ob.lst (pool.map .str)] ++ [Ob.lst []] = S1 at hm1 hm2 ⊢
  have f1 : Fm l B S S1 := by rw [← hS1]; exact (Fm.start hu).push.push
  have n12 : S.length + 1 ≠ S.length := by omega
  refine run_whl (fun k ρ S' => ∃ L N : List Str, ρ = [some (.loc l), some (.int m), some (.loc S.length), some (.loc (S.length + 1))] ∧ S'[S.length]? = some (.lst (L.map .str)) ∧ S'[S.length + 1]? = some (.lst (N.map .str)) ∧ Fm l (B + N.length) S S' ∧ (N ++ L).Perm pool ∧ N.length ≤ m ∧ k = m - N.length) m (by show m < W; omega) ⟨pool, [], rfl, hm1, hm2, f1, .refl _, Nat.zero_le _, rfl⟩ ?_
  rintro k ρ S' ⟨L, N, rfl, h1, h2, f, pm, hN, rfl⟩
  have hlen := pm.length_eq
  rw [List.length_append, show pool.length = 8 by decide] at hlen
  rw [rv_cmp, rv_bif, rs_cons, rv_loc]
  refine ⟨_, rfl, ?_⟩
  rw [rs_nil]
  refine ⟨.int N.length, by rw [List.map_cons, List.map_nil, vw0_loc h2, bif_len_vl, List.length_map], ?_⟩
  rw [rv_loc]
  refine ⟨_, rfl, _, rfl, _, rfl, fun ht => ?_, fun ht => ?_⟩
  · have ht : N.length < m := by have := of_decide_eq_true ht; omega
    rw [rxs_cons, rx_exp]
    refine run_mthL (l := S.length + 1) ?_
    rw [rv_loc]
    refine ⟨_, rfl, rfl, ⟨_, h2⟩, ?_⟩
    rw [rs_cons]
    refine run_mthL (l := S.length) ?_
    rw [rv_loc]
    refine ⟨_, rfl, rfl, ⟨_, h1⟩, ?_⟩
    rw [rs_cons]
    refine ev_take1 (n := n) (m := (L.length : Int)) ?_ rfl f.ur (by omega) (by omega) (by omega) fun r S2 r0 r1 hu2 ho2 => ?_
    · rw [rv_bif, rs_cons, rv_loc]
      refine ⟨_, rfl, ?_⟩
      rw [rs_nil]
      exact ⟨.int L.length, by rw [List.map_cons, List.map_nil, vw0_loc h1, bif_len_vl, List.length_map], rfl, rfl⟩
    · obtain ⟨k, rfl⟩ := Int.eq_ofNat_of_zero_le r0
      have hk : k < L.length := by omega
      have f2 := f.only ho2 hu2
      have g1 := ho2.at h1 (f.ne (Nat.le_refl _))
      have g2 := ho2.at h2 (f.ne (Nat.le_succ _))
      have hx : (L.map T.str)[k]? = some (.str L[k]) := by simp [hk]
      rw [rs_nil]
      refine ⟨_, g1, ?_⟩
      rw [mth_popN hx (by omega), rv_ok, rs_nil]
      refine ⟨_, at_setne g2 (by omega), ?_⟩
      rw [mth_app (by rw [List.length_map]; unfold lim; omega), rv_ok, nx_nx, rxs_nil, wturn_nx]
      refine ⟨m - (N ++ [L[k]]).length, by rw [List.length_append]; simp; omega, L.eraseIdx k, N ++ [L[k]], rfl, ?_, ?_, ?_, ?_, ?_, rfl⟩
      · rw [List.getElem?_set_ne n12, at_set g1, erase_map]
      · rw [at_set (at_setne g2 (by omega)), List.map_append]; rfl
      · exact ((f2.set (Nat.le_refl _)).set (Nat.le_succ _)).mono (by rw [List.length_append]; simp; omega)
      · refine List.Perm.trans ?_ pm
        rw [List.append_assoc]
        exact List.Perm.append_left N (erase_perm hk)
      · rw [List.length_append]; simp; omega
  · have ht : ¬ N.length < m := by have := of_decide_eq_false ht; omega
    refine run_ret ?_
    rw [rv_loc]
    refine ⟨_, rfl, ?_⟩
    rw [fin_rt']
    refine f.gcL (by omega) h2 (belL_str N) fun S2 hu2 ho2 => h N S2 (by omega) ?_ ?_ (hu2.mono (by omega)) ho2
    · exact (List.nodup_append.mp (pm.nodup_iff.mpr (by decide))).1
    · intro x hx
      exact pm.mem_iff.mp (List.mem_append_left _ hx)
end Px.sh
end
section
set_option linter.all false
set_option maxRecDepth 100000
/-! Sh10: drawn instructions and programs. -/
namespace Px.sh
open PySem Px
variable {tab : Str → Option Fn} {W n : Nat} {S : Sto} {P : T → Sto → Prop}
theorem eq_int {i j : Int} : cmpT .eq (.int i) (.int j) = some (i == j) := by
  show some ((PyData.int i).eqv (.int j)) = _
  have e : (PyData.int i).eqv (.int j) = (i == j) := by first | rfl | simp [PyData.eqv] | (unfold PyData.eqv; rfl)
  rw [e]
theorem eq_str {i j : Str} : cmpT .eq (.str i) (.str j) = some (decide (i = j)) := rfl
theorem ne_str {i j : Str} : cmpT .ne (.str i) (.str j) = some (!decide (i = j)) := rfl
inductive In where | fence | acc (w x : Str)
deriving DecidableEq
def In.t : In → T
  | .fence => .tup [.str "fence"]
  | .acc w x => .tup [.str w, .str x]
def words : List Str := ["store", "load", "swap"]
def In.ok (N : List Str) : In → Prop
  | .fence => True
  | .acc w x => w ∈ words ∧ x ∈ N
def rowT (r : List In) : T := .tup (r.map In.t)
def planT (p : List (List In)) : T := .tup (p.map rowT)
theorem in_bel {k : Nat} (i : In) : i.t.bel k = true := by cases i <;> rfl
theorem row_belL {k : Nat} : ∀ r : List In, T.belL k (r.map In.t) = true
  | [] => rfl
  | i :: r => by
    show (i.t.bel k && T.belL k (r.map In.t)) = true
    rw [in_bel, row_belL r]; rfl
theorem row_bel {k : Nat} (r : List In) : (rowT r).bel k = true := row_belL r
theorem plan_belL {k : Nat} : ∀ p : List (List In), T.belL k (p.map rowT) = true
  | [] => rfl
  | r :: p => by
    show ((rowT r).bel k && T.belL k (p.map rowT)) = true
    rw [row_bel, plan_belL p]; rfl
theorem plan_bel {k : Nat} (p : List (List In)) : (planT p).bel k = true := plan_belL p
theorem t_instruction [F__law_take tab] [F__law_of tab] [F__law_instruction tab] {l B : Nat} {N : List Str} (hu : Ur l B S) (hB : B < 2 ^ 59) (hN : N ≠ []) (hN2 : N.length ≤ 100) (h : ∀ (i : In) S', i.ok N → Ur l (B + 2) S' → Only l S S' → P i.t S') :
    Run (callN tab W (n + 3) "_law_instruction" [.loc l, .vl (N.map .str)] [] S) P := by
  refine run_call (fn := fn__law_instruction) (as := [.loc l, .vl (N.map .str)]) F__law_instruction.h (by rfl) ?_
  show Run (execs _ b__law_instruction [some (.loc l), some (.vl (N.map .str)), none] S) (Fin false S P)
  unfold b__law_instruction
  refine run_asg ?_
  refine ev_take1 (n := n + 1) (m := 12) (by rw [rv_con]; exact ⟨rfl, rfl⟩) rfl hu (by omega) (by omega) (by omega) fun r S1 r0 r1 hu1 ho1 => ?_
  show Run (execs _ _ [some (.loc l), some (.vl (N.map .str)), some (.int r)] S1) _
  refine run_if (run_v (.bl (r == 11)) (by rw [rv_cmp, rv_loc]; refine ⟨_, rfl, ?_⟩; rw [rv_con]; exact ⟨_, eq_int, rfl, rfl⟩) ⟨_, rfl, fun _ => ?_, fun _ => ?_⟩)
  · refine run_ret ?_
    rw [rv_tup, rs_cons, rv_con, rs_nil]
    refine ⟨by simp [lim], ?_⟩
    rw [nx_rt, fin_rt']
    exact gc_only (in_bel .fence) ho1 hu1 (h .fence S1 trivial (hu1.mono (by omega)) ho1)
  · rw [rxs_nil, nx_nx]
    refine run_ret ?_
    have hw : ∃ w ∈ words, Run (ev ⟨callN tab W (n + 2), W⟩ (.idx (.lst (.cons (.con (.str "store")) (.cons (.con (.str "load")) (.cons (.con (.str "swap")) .nil)))) (.bin .add (.bty "int" (.cons (.cmp .gt (.loc 2) (.con (.int 4))) .nil)) (.bty "int" (.cons (.cmp .gt (.loc 2) (.con (.int 9))) .nil)))) [some (.loc l), some (.vl (N.map .str)), some (.int r)] S1) fun x S' => x = .str w ∧ S' = S1 := by
      by_cases c1 : 4 < r
      · by_cases c2 : 9 < r
        · exact ⟨"swap", by decide, by simp [lim, c1, c2]⟩
        · exact ⟨"load", by decide, by simp [lim, c1, c2]⟩
      · exact ⟨"store", by decide, by simp [lim, c1, show ¬ (9 : Int) < r by omega]⟩
    obtain ⟨w, hw1, hw2⟩ := hw
    rw [rv_tup, rs_cons]
    refine run_v _ hw2 ?_
    rw [rs_cons, rv_call, rs_cons, rv_loc]
    refine ⟨_, rfl, ?_⟩
    rw [rs_cons, rv_loc]
    refine ⟨_, rfl, ?_⟩
    rw [rs_nil, rs_nil]
    refine t_of (tab := tab) (n := n) hu1 (by omega) (by simpa using hN) (by rw [List.length_map]; omega) (belL_str N) fun v S2 hv hu2 ho2 => ?_
    obtain ⟨x, hx, rfl⟩ := List.mem_map.mp hv
    rw [rs_nil]
    refine ⟨by simp [lim], ?_⟩
    rw [fin_rt']
    exact gc_only (in_bel (.acc w x)) (ho1.trans ho2) hu2 (h (.acc w x) S2 ⟨hw1, hx⟩ hu2 (ho1.trans ho2))
/-- a program as it is drawn: rows, instructions of each, variables -/
structure PlanOk (a b c : Nat) (p : List (List In)) : Prop where
  ex : ∃ N : List Str, N.length ≤ c ∧ N.Nodup ∧ (∀ x ∈ N, x ∈ pool) ∧ ∀ r ∈ p, ∀ i ∈ r, i.ok N
  one : 1 ≤ p.length
  most : p.length ≤ a
  row : ∀ r ∈ p, r.length ≤ b
theorem rowT_snoc (r : List In) (i : In) : r.map In.t ++ [i.t] = (r ++ [i]).map In.t := by simp
theorem t_plan [F__law_take tab] [F__law_of tab] [F__law_names tab] [F__law_instruction tab] [F__law_plan tab] {l B a b c : Nat} (hu : Ur l B S) (hB : B < 2 ^ 58) (ha : 1 ≤ a) (ha2 : a ≤ 6) (hb : b ≤ 16) (hc : 1 ≤ c) (hc2 : c ≤ 8) (hW : 8 < W) (h : ∀ (p : List (List In)) S', PlanOk a b c p → Ur l (B + 1000) S' → Only l S S' → P (planT p) S') :
    Run (callN tab W (n + 4) "_law_plan" [.loc l, .int a, .int b, .int c] [] S) P := by
  refine run_call (fn := fn__law_plan) (as := [.loc l, .int a, .int b, .int c]) F__law_plan.h (by rfl) ?_
  show Run (execs _ b__law_plan [some (.loc l), some (.int a), some (.int b), some (.int c), none, none, none, none] S) (Fin false S P)
  unfold b__law_plan
  refine run_asg ?_
  rw [rv_call, rs_cons, rv_loc]
  refine ⟨_, rfl, ?_⟩
  rw [rs_cons, rv_bin, rv_con]
  refine ev_take1 (n := n + 2) (m := (c : Int)) (by rw [rv_loc]; exact ⟨_, rfl, rfl, rfl⟩) rfl hu (by omega) (by omega) (by omega) fun k S1 k0 k1 hu1 ho1 => ?_
  obtain ⟨k, rfl⟩ := Int.eq_ofNat_of_zero_le k0
  refine ⟨.int ((k + 1 : Nat) : Int), by rw [vw0_int, vw0_int, add_int]; congr 2; omega, ?_⟩
  rw [rs_nil, rs_nil]
  refine t_names (tab := tab) (n := n + 1) (m := k + 1) hu1 (by omega) (by omega) hW fun N S2 hN hnd hpool hu2 ho2 => ?_
  show Run (execs _ _ [some (.loc l), some (.int a), some (.int b), some (.int c), some (.vl (N.map .str)), none, none, none] S2) _
  have f2 : Fm l (B + 1 + 8) S S2 := ((Fm.start hu).only ho1 hu1).only ho2 hu2
  have hNe : N ≠ [] := by intro z; rw [z] at hN; simp at hN
  refine run_asg ?_
  rw [rv_new, rv_lst, rs_nil]
  refine ⟨by simp [lim], ?_⟩
  rw [rv_newv]
  generalize hm : S2.length = m
  have hmS : S.length ≤ m := by have := f2.len; omega
  have hm3 : (S2 ++ [Ob.lst []])[m]? = some (.lst []) := by rw [← hm]; exact at_new
  have f3 : Fm l (B + 9) S (S2 ++ [Ob.lst []]) := f2.push
  generalize S2 ++ [Ob.lst []] = S3 at hm3 f3 ⊢
  show Run (execs _ _ [some (.loc l), some (.int a), some (.int b), some (.int c), some (.vl (N.map .str)), some (.loc m), none, none] S3) _
  refine run_for ?_
  rw [ri_range, rs_cons, rv_bin, rv_con]
  refine ev_take1 (n := n + 2) (m := (a : Int)) (by rw [rv_loc]; exact ⟨_, rfl, rfl, rfl⟩) rfl f3.ur (by omega) (by omega) (by omega) fun q S4 q0 q1 hu4 ho4 => ?_
  obtain ⟨q, rfl⟩ := Int.eq_ofNat_of_zero_le q0
  have f4 := f3.only ho4 hu4
  have hm4 := ho4.at hm3 (f3.ne hmS)
  refine ⟨.int (1 + (q : Int)), rfl, ?_⟩
  rw [rs_nil, rangeT_1]
  refine ⟨_, by rw [decide_eq_true (by omega), decide_eq_true (by omega)]; rfl, ?_⟩
  refine run_forL (fun i ρ S' => ∃ (p : List (List In)) (o : Option T), ρ = [some (.loc l), some (.int a), some (.int b), some (.int c), some (.vl (N.map .str)), some (.loc m), o, none] ∧ S'[m]? = some (.lst (p.map rowT)) ∧ Fm l (B + 10 + 40 * i) S S' ∧ p.length = i ∧ (∀ r ∈ p, r.length ≤ b) ∧ ∀ r ∈ p, ∀ j ∈ r, j.ok N) _ 0 _ _ ⟨[], none, rfl, hm4, f4, rfl, by simp, by simp⟩ ?_ ?_
  · rintro i x ρ S' hx ⟨p, o, rfl, hp, f, hl, hb1, hok⟩
    obtain ⟨rfl, hi⟩ := rng_at hx
    have hi : i < 6 := by omega
    rw [Nat.zero_add] at f hl ⊢
    rw [rv_bind, rv_opt]
    refine ⟨_, rfl, ?_⟩
    rw [rxs_cons, rx_exp]
    refine run_mthL (l := m) ?_
    rw [rv_loc]
    refine ⟨_, rfl, rfl, ⟨_, hp⟩, ?_⟩
    rw [rs_cons, rv_bty, rs_cons, rv_comp, ri_range, rs_cons]
    refine ev_take1 (n := n + 2) (m := ((b : Int) + 1)) (by rw [rv_bin, rv_loc]; refine ⟨_, rfl, ?_⟩; rw [rv_con]; exact ⟨_, rfl, rfl, rfl⟩) rfl f.ur (by omega) (by omega) (by omega) fun t S5 t0 t1 hu5 ho5 => ?_
    have f5 := f.only ho5 hu5
    have hp5 := ho5.at hp (f.ne hmS)
    rw [rs_nil, rangeT_1]
    refine ⟨_, by rw [decide_eq_true (by omega), decide_eq_true (by omega)]; rfl, ?_⟩
    refine run_compL (fun j acc S6 => ∃ r : List In, acc = r.map In.t ∧ r.length = j ∧ (∀ u ∈ r, u.ok N) ∧ S6[m]? = some (.lst (p.map rowT)) ∧ Fm l (B + 11 + 40 * i + 2 * j) S S6) _ 0 _ _ ⟨[], rfl, rfl, by simp, hp5, f5.mono (by omega)⟩ ?_ ?_
    · rintro j y acc S6 hy ⟨r, rfl, hrl, hro, hp6, f6⟩
      obtain ⟨rfl, hj⟩ := rng_at hy
      have hj : j < 17 := by omega
      rw [Nat.zero_add] at hrl f6 ⊢
      rw [rv_bind, rv_opt]
      refine ⟨_, rfl, ?_⟩
      rw [rv_bind, rc_nil, if_pos rfl, rv_bind, rv_call, rs_cons, rv_loc]
      refine ⟨.loc l, rfl, ?_⟩
      rw [rs_cons, rv_loc]
      refine ⟨.vl (N.map .str), rfl, ?_⟩
      rw [rs_nil, rs_nil]
      refine t_instruction (tab := tab) (n := n) f6.ur (by omega) hNe (by omega) fun u S7 hu' hu7 ho7 => ?_
      rw [rv_ok]
      refine ⟨trivial, r ++ [u], rowT_snoc r u, by rw [List.length_append, hrl]; rfl, fun z hz => ?_, ho7.at hp6 (f6.ne hmS), (f6.only ho7 hu7).mono (by omega)⟩
      rcases List.mem_append.mp hz with hz | hz
      · exact hro z hz
      · rw [List.mem_singleton.mp hz]; exact hu'
    · rintro acc S6 ⟨r, rfl, hrl, hro, hp6, f6⟩
      rw [rng_len] at hrl f6
      refine ⟨by rw [List.length_map, hrl]; unfold lim; omega, ?_⟩
      rw [rs_nil]
      refine ⟨rowT r, rfl, ?_⟩
      rw [rs_nil]
      refine ⟨_, hp6, ?_⟩
      rw [mth_app (by rw [List.length_map]; unfold lim; omega), rv_ok, nx_nx, rxs_nil, turn_nx]
      refine ⟨trivial, p ++ [r], _, rfl, by rw [at_set hp6, List.map_append]; rfl, (f6.set hmS).mono (by omega), by rw [List.length_append, hl]; rfl, fun z hz => ?_, fun z hz => ?_⟩
      · rcases List.mem_append.mp hz with hz | hz
        · exact hb1 z hz
        · rw [List.mem_singleton.mp hz]; omega
      · rcases List.mem_append.mp hz with hz | hz
        · exact hok z hz
        · rw [List.mem_singleton.mp hz]; exact hro
  · rintro ρ S' ⟨p, o, rfl, hp, f, hl, hb1, hok⟩
    rw [rng_len] at f hl
    rw [nx_nx]
    refine run_ret ?_
    rw [rv_bty, rs_cons, rv_loc]
    refine ⟨_, rfl, ?_⟩
    rw [rs_nil]
    refine ⟨planT p, by rw [List.map_cons, List.map_nil, vw0_loc hp, bty_tupv]; rfl, ?_⟩
    rw [fin_rt']
    refine f.gc (plan_bel p) fun S2 hu2 ho2 => h p S2 ⟨⟨N, by omega, hnd, hpool, hok⟩, by omega, by omega, hb1⟩ (hu2.mono (by omega)) ho2
end Px.sh
end
section
set_option linter.all false
set_option maxRecDepth 100000
/-! Sh11: programs near a known shape. -/
namespace Px.sh
open PySem Px
variable {tab : Str → Option Fn} {W n : Nat} {S : Sto} {P : T → Sto → Prop}
theorem t_ofL [F__law_take tab] [F__law_of tab] {l B m : Nat} {xs : List T} (hu : Ur l B S) (hm : S[m]? = some (.lst xs)) (hne : m ≠ l) (hB : B < 2 ^ 60) (hx : xs ≠ []) (hx2 : xs.length < 2 ^ 30) (hp : T.belL S.length xs = true) (h : ∀ v S', v ∈ xs → Ur l (B + 1) S' → Only l S S' → P v S') : Run (callN tab W (n + 2) "_law_of" [.loc l, .loc m] [] S) P := by
  refine run_call (fn := fn__law_of) (as := [.loc l, .loc m]) F__law_of.h (by rfl) ?_
  show Run (execs _ b__law_of [some (.loc l), some (.loc m)] S) (Fin false S P)
  unfold b__law_of
  have hl : 0 < xs.length := List.length_pos_iff.mpr hx
  refine run_ret ?_
  rw [rv_idx, rv_loc]
  refine ⟨_, rfl, ?_⟩
  refine ev_take1 (n := n) (m := (xs.length : Int)) (by rw [rv_bif, rs_cons, rv_loc]; refine ⟨_, rfl, ?_⟩; rw [rs_nil]; exact ⟨_, by rw [List.map_cons, List.map_nil, vw0_loc hm, bif_len_vl], rfl, rfl⟩) rfl hu hB (by omega) (by omega) fun r S' h0 h1 hu' ho => ?_
  obtain ⟨v, hv, hv2⟩ := at_lt h0 h1
  have hmem := List.mem_of_getElem? hv2
  refine ⟨v, by rw [vw0_loc (ho.at hm hne)]; exact hv, ?_⟩
  rw [fin_rt']
  exact gc_only (belL_mem hp v hmem) ho hu' (h v S' hmem hu' ho)
theorem run_push {C : Cfg} {l B i m : Nat} {S0 : Sto} {xs : List T} {e : Ex} {t : T} {ss : Sms} {ρ : Env} {P : Fl × Env → Sto → Prop} (f : Fm l B S0 S) (hmS : S0.length ≤ m) (hm : S[m]? = some (.lst xs)) (h0 : ρ[i]? = some (some (.loc m))) (he : Run (ev C e ρ S) fun x S' => x = t ∧ S' = S) (hl : xs.length < lim)
    (k : ∀ S', S'[m]? = some (.lst (xs ++ [t])) → Fm l B S0 S' → S'.length = S.length → Run (execs C ss ρ S') P) : Run (execs C (.cons (.exp (.mth (.loc i) "append" (.cons e .nil))) ss) ρ S) P := by
  rw [rxs_cons, rx_exp]
  refine run_mthL (l := m) ?_
  rw [rv_loc]
  refine ⟨_, h0, rfl, ⟨_, hm⟩, ?_⟩
  rw [rs_cons]
  refine run_v _ he ?_
  rw [rs_nil]
  refine ⟨_, hm, ?_⟩
  rw [mth_app hl, rv_ok, nx_nx]
  exact k _ (at_set hm) (f.set hmS) (List.length_set ..)
theorem fm_congr {α β : Type} {f g : α → Option β} : ∀ {xs : List α}, (∀ x ∈ xs, f x = g x) → xs.filterMap f = xs.filterMap g
  | [], _ => rfl
  | x :: xs, h => by
    rw [List.filterMap_cons, List.filterMap_cons, h x (by simp), fm_congr fun y hy => h y (by simp [hy])]
def stI (x : Str) : In := .acc "store" x
def ldI (x : Str) : In := .acc "load" x
def shapes (x y z : Str) : List (List (List In)) := [[[stI x, ldI y], [stI y, ldI x]], [[stI x, stI y], [ldI y, ldI x]], [[stI x, ldI y], [stI y], [ldI y, ldI x]], [[stI x, ldI y], [stI y, stI x]], [[stI x, ldI y], [stI y, ldI z], [stI z, ldI x]], [[stI x, stI y], [stI y, stI x]]]
theorem shapes_ok {N : List Str} {x y z : Str} (hx : x ∈ N) (hy : y ∈ N) (hz : z ∈ N) : ∀ p ∈ shapes x y z, 1 ≤ p.length ∧ p.length ≤ 3 ∧ ∀ r ∈ p, r.length ≤ 2 ∧ ∀ i ∈ r, i.ok N := by
  have s : ∀ v, v ∈ N → (stI v).ok N := fun v h => ⟨by decide, h⟩
  have d : ∀ v, v ∈ N → (ldI v).ok N := fun v h => ⟨by decide, h⟩
  intro p hp
  simp only [shapes, List.mem_cons, List.not_mem_nil, or_false] at hp
  rcases hp with rfl | rfl | rfl | rfl | rfl | rfl <;> simp <;> simp [s, d, hx, hy, hz]
theorem row_at {rows : List (List In)} {m0 : Nat} {S : Sto} (h : ∀ j (hj : j < rows.length), S[m0 + j]? = some (.lst (rows[j].map In.t))) {v : T} (hv : v ∈ (List.range rows.length).map fun j => T.loc (m0 + j)) : ∃ j, ∃ hj : j < rows.length, v = .loc (m0 + j) ∧ S[m0 + j]? = some (.lst (rows[j].map In.t)) := by
  obtain ⟨j, hj, rfl⟩ := List.mem_map.mp hv
  have hj := List.mem_range.mp hj
  exact ⟨j, hj, rfl, h j hj⟩
theorem t_near [F__law_take tab] [F__law_of tab] [F__law_names tab] [F__law_instruction tab] [F__law_near tab] {l B : Nat} (hu : Ur l B S) (hB : B < 2 ^ 58) (hW : 8 < W) (h : ∀ (p : List (List In)) S', PlanOk 3 6 4 p → Ur l (B + 1000) S' → Only l S S' → P (planT p) S') :
    Run (callN tab W (n + 4) "_law_near" [.loc l] [] S) P := by
  refine run_call (fn := fn__law_near) (as := [.loc l]) F__law_near.h (by rfl) ?_
  show Run (execs _ b__law_near [some (.loc l), none, none, none, none, none, none, none, none, none] S) (Fin false S P)
  unfold b__law_near
  refine run_asg ?_
  rw [rv_call, rs_cons, rv_loc]
  refine ⟨_, rfl, ?_⟩
  rw [rs_cons, rv_con, rs_nil, rs_nil]
  refine t_names (tab := tab) (n := n + 1) (m := 4) hu (by omega) (by omega) hW fun N S1 hN hnd hpool hu1 ho1 => ?_
  obtain ⟨x, y, z, u, rfl⟩ : ∃ x y z u, N = [x, y, z, u] := by
    match N, hN with
    | [x, y, z, u], _ => exact ⟨x, y, z, u, rfl⟩
  have f1 := (Fm.start hu).only ho1 hu1
  show Run (execs _ _ [some (.loc l), some (.vl [.str x, .str y, .str z, .str u]), none, none, none, none, none, none, none, none] S1) _
  rw [rxs_cons, rx_asg, rv_slc, rv_loc]
  refine ⟨_, rfl, ?_⟩
  rw [ro_none, ro_some, rv_con]
  refine ⟨3, rfl, .vl [.str x, .str y, .str z], by rfl, _, by rfl, ?_⟩
  rw [nx_nx]
  show Run (execs _ _ [some (.loc l), some (.vl [.str x, .str y, .str z, .str u]), some (.str x), some (.str y), some (.str z), none, none, none, none, none] S1) _
  refine run_asg ?_
  rw [rv_new]
  refine run_v (.vl [planT [[stI x, ldI y], [stI y, ldI x]]]) (by simp [lim]; rfl) ?_
  rw [rv_newv]
  generalize hm : S1.length = m
  have hmS : S.length ≤ m := by have := f1.len; omega
  have hm2 : (S1 ++ [Ob.lst [planT [[stI x, ldI y], [stI y, ldI x]]]])[m]? = some (.lst [planT [[stI x, ldI y], [stI y, ldI x]]]) := by rw [← hm]; exact at_new
  have f2 : Fm l (B + 8) S (S1 ++ [Ob.lst [planT [[stI x, ldI y], [stI y, ldI x]]]]) := f1.push
  have l2 : (S1 ++ [Ob.lst [planT [[stI x, ldI y], [stI y, ldI x]]]]).length = m + 1 := by rw [List.length_append, hm]; rfl
  generalize S1 ++ [Ob.lst _] = S2 at hm2 f2 l2 ⊢
  show Run (execs _ _ [some (.loc l), some (.vl [.str x, .str y, .str z, .str u]), some (.str x), some (.str y), some (.str z), some (.loc m), none, none, none, none] S2) _
  refine run_push f2 hmS hm2 rfl (t := planT [[stI x, stI y], [ldI y, ldI x]]) (by simp [lim]; rfl) (by simp [lim]) fun S3 hm3 f3 l3 => ?_
  refine run_push f3 hmS hm3 rfl (t := planT [[stI x, ldI y], [stI y], [ldI y, ldI x]]) (by simp [lim]; rfl) (by simp [lim]) fun S4 hm4 f4 l4 => ?_
  refine run_push f4 hmS hm4 rfl (t := planT [[stI x, ldI y], [stI y, stI x]]) (by simp [lim]; rfl) (by simp [lim]) fun S5 hm5 f5 l5 => ?_
  refine run_push f5 hmS hm5 rfl (t := planT [[stI x, ldI y], [stI y, ldI z], [stI z, ldI x]]) (by simp [lim]; rfl) (by simp [lim]) fun S6 hm6 f6 l6 => ?_
  refine run_push f6 hmS hm6 rfl (t := planT [[stI x, stI y], [stI y, stI x]]) (by simp [lim]; rfl) (by simp [lim]) fun S7 hm7 f7 l7 => ?_
  have hm7 : S7[m]? = some (.lst ((shapes x y z).map planT)) := hm7
  refine run_asg ?_
  rw [rv_comp, ri_plain, rv_call, rs_cons, rv_loc]
  refine ⟨_, rfl, ?_⟩
  rw [rs_cons, rv_loc]
  refine ⟨_, rfl, ?_⟩
  rw [rs_nil, rs_nil]
  have hbelm : T.belL S7.length ((shapes x y z).map planT) = true := by
    have : ∀ (L : List (List (List In))) k, T.belL k (L.map planT) = true := fun L k => by
      induction L with
      | nil => rfl
      | cons p L ih => show ((planT p).bel k && _) = true; rw [plan_bel, ih]; rfl
    exact this _ _
  refine t_ofL (tab := tab) (n := n + 1) f7.ur hm7 (f7.ne hmS) (by omega) (by simp [shapes]) (by simp [shapes]) hbelm fun v S8 hv hu8 ho8 => ?_
  obtain ⟨p0, hp0, rfl⟩ := List.mem_map.mp hv
  obtain ⟨p1, p3, prow⟩ := shapes_ok (N := [x, y, z, u]) (x := x) (y := y) (z := z) (by simp) (by simp) (by simp) p0 hp0
  have f8 := f7.only ho8 hu8
  refine ⟨p0.map rowT, rfl, ?_⟩
  generalize hm0 : S8.length = m0
  have hm0S : S.length ≤ m0 := by have := f8.len; omega
  refine run_compL (fun j acc S' => acc = (List.range j).map (fun j => T.loc (m0 + j)) ∧ (∀ i (hi : i < p0.length), i < j → S'[m0 + i]? = some (.lst (p0[i].map In.t))) ∧ Fm l (B + 9) S S' ∧ S'.length = m0 + j) _ 0 _ _ ⟨rfl, fun i _ z => absurd z (Nat.not_lt_zero _), f8.mono (by omega), hm0⟩ ?_ ?_
  · rintro j t acc S' ht ⟨rfl, hat, f, hlen⟩
    rw [Nat.zero_add] at hat hlen ⊢
    rw [List.getElem?_map] at ht
    obtain ⟨r, hr, rfl⟩ := Option.map_eq_some_iff.mp ht
    obtain ⟨hj, er⟩ := List.getElem?_eq_some_iff.mp hr
    rw [rv_bind, rv_opt]
    refine ⟨_, rfl, ?_⟩
    rw [rv_bind, rc_nil, if_pos rfl, rv_bind, rv_new, rv_bty, rs_cons, rv_loc]
    refine ⟨_, rfl, ?_⟩
    rw [rs_nil]
    refine ⟨.vl (r.map In.t), by rfl, ?_⟩
    rw [rv_newv, rv_ok]
    refine ⟨trivial, by rw [hlen, List.range_succ, List.map_append]; rfl, fun i hi hij => ?_, f.push, by rw [List.length_append, hlen]; rfl⟩
    by_cases c : i < j
    · exact at_old (hat i hi c)
    · obtain rfl : i = j := by omega
      rw [← hlen, er]
      exact at_new
  · rintro acc S9 ⟨rfl, hat, f9, hlen⟩
    rw [List.length_map, Nat.zero_add] at hat hlen ⊢
    refine ⟨by simp [lim]; omega, ?_⟩
    rw [show (p0.map rowT, locOf (planT p0)).1.length = p0.length from List.length_map ..]
    show Run (execs _ _ [some (.loc l), some (.vl [.str x, .str y, .str z, .str u]), some (.str x), some (.str y), some (.str z), some (.loc m), some (.vl ((List.range p0.length).map fun j => T.loc (m0 + j))), none, none, none] S9) _
    have hat : ∀ i (hi : i < p0.length), S9[m0 + i]? = some (.lst (p0[i].map In.t)) := fun i hi => hat i hi hi
    obtain ⟨K, hK⟩ : ∃ K, p0.length = K := ⟨_, rfl⟩
    rw [hK] at hlen p1 p3 ⊢
    refine run_for ?_
    rw [ri_range, rs_cons]
    refine ev_take1 (n := n + 2) (m := 5) (by rw [rv_con]; exact ⟨rfl, rfl⟩) rfl f9.ur (by omega) (by omega) (by omega) fun q S10 q0 q1 hu10 ho10 => ?_
    have f10 := f9.only ho10 hu10
    rw [rs_nil, rangeT_1]
    refine ⟨_, by rw [decide_eq_true (by omega), decide_eq_true (by omega)]; rfl, ?_⟩
    refine run_forL (fun i ρ S' => ∃ (rows : List (List In)) (o7 o8 o9 : Option T), ρ = [some (.loc l), some (.vl [.str x, .str y, .str z, .str u]), some (.str x), some (.str y), some (.str z), some (.loc m), some (.vl ((List.range K).map fun j => T.loc (m0 + j))), o7, o8, o9] ∧
      rows.length = K ∧ (∀ j (hj : j < rows.length), S'[m0 + j]? = some (.lst (rows[j].map In.t))) ∧ (∀ r ∈ rows, r.length ≤ 2 + i ∧ ∀ i ∈ r, i.ok [x, y, z, u]) ∧ Fm l (B + 10 + 10 * i) S S' ∧ S'.length = m0 + K) _ 0 _ _
      ⟨p0, none, none, none, rfl, hK, fun j hj => ho10.at (hat j hj) (f9.ne (by omega)), prow, f10, by rw [ho10.1]; exact hlen⟩ ?_ ?_
    · rintro i t ρ S' ht ⟨rows, o7, o8, o9, rfl, hlr, hrow, hro, f, hlen'⟩
      obtain ⟨rfl, hi⟩ := rng_at ht
      have hi : i < 5 := by omega
      rw [Nat.zero_add] at hro f ⊢
      rw [rv_bind, rv_opt]
      refine ⟨_, rfl, ?_⟩
      show Run (execs _ _ [some (.loc l), some (.vl [.str x, .str y, .str z, .str u]), some (.str x), some (.str y), some (.str z), some (.loc m), some (.vl ((List.range K).map fun j => T.loc (m0 + j))), some (.int (0 + (i : Int))), o8, o9] S') _
      refine run_asg ?_
      rw [rv_call, rs_cons, rv_loc]
      refine ⟨_, rfl, ?_⟩
      rw [rs_cons, rv_loc]
      refine ⟨_, rfl, ?_⟩
      rw [rs_nil, rs_nil]
      have hbl : ∀ k, k ≤ K → T.belL S'.length ((List.range k).map fun j => T.loc (m0 + j)) = true := fun k hk => by
        induction k with
        | zero => rfl
        | succ k ih =>
          rw [List.range_succ, List.map_append]
          have ap : ∀ (a b : List T) q, T.belL q (a ++ b) = (T.belL q a && T.belL q b) := fun a b q => by
            induction a with
            | nil => rfl
            | cons c a ih2 => show (c.bel q && T.belL q (a ++ b)) = (c.bel q && T.belL q a && T.belL q b); rw [ih2, Bool.and_assoc]
          rw [ap, ih (by omega)]
          simp [T.belL, T.bel]
          omega
      refine t_of (tab := tab) (n := n + 1) f.ur (by omega) (by simp; omega) (by simp; omega) (hbl K (Nat.le_refl _)) fun v S11 hv hu11 ho11 => ?_
      have f11 := f.only ho11 hu11
      have hrow1 : ∀ j (hj : j < rows.length), S11[m0 + j]? = some (.lst (rows[j].map In.t)) := fun j hj => ho11.at (hrow j hj) (f.ne (by omega))
      rw [← hlr] at hv
      obtain ⟨j, hj, rfl, hr⟩ := row_at hrow1 hv
      show Run (execs _ _ [some (.loc l), some (.vl [.str x, .str y, .str z, .str u]), some (.str x), some (.str y), some (.str z), some (.loc m), some (.vl ((List.range K).map fun j => T.loc (m0 + j))), some (.int (0 + (i : Int))), some (.loc (m0 + j)), o9] S11) _
      have hrj := hro rows[j] (List.getElem_mem hj)
      refine run_asg ?_
      refine ev_take1 (n := n + 2) (m := ((rows[j].length : Int) + 1)) (by
        rw [rv_bin, rv_bif, rs_cons, rv_loc]
        refine ⟨_, rfl, ?_⟩
        rw [rs_nil]
        refine ⟨_, by rw [List.map_cons, List.map_nil, vw0_loc hr, bif_len_vl], ?_⟩
        rw [rv_con, List.length_map]
        exact ⟨_, rfl, rfl, rfl⟩) rfl f11.ur (by omega) (by omega) (by omega) fun w S12 w0 w1 hu12 ho12 => ?_
      obtain ⟨w, rfl⟩ := Int.eq_ofNat_of_zero_le w0
      have f12 := f11.only ho12 hu12
      have hrow2 : ∀ j (hj : j < rows.length), S12[m0 + j]? = some (.lst (rows[j].map In.t)) := fun j hj => ho12.at (hrow1 j hj) (f11.ne (by omega))
      have hr2 := hrow2 j hj
      show Run (execs _ _ [some (.loc l), some (.vl [.str x, .str y, .str z, .str u]), some (.str x), some (.str y), some (.str z), some (.loc m), some (.vl ((List.range K).map fun j => T.loc (m0 + j))), some (.int (0 + (i : Int))), some (.loc (m0 + j)), some (.int (w : Int))] S12) _
      -- a row written
      have wr : ∀ (S13 : Sto) (r' : List In), (∀ j (hj : j < rows.length), S13[m0 + j]? = some (.lst (rows[j].map In.t))) → Fm l (B + 20 + 10 * i) S S13 → S13.length = m0 + K → r'.length ≤ 2 + (i + 1) → (∀ i ∈ r', i.ok [x, y, z, u]) →
          ∃ (rows' : List (List In)) (o7 o8 o9 : Option T), [some (T.loc l), some (.vl [.str x, .str y, .str z, .str u]), some (.str x), some (.str y), some (.str z), some (.loc m), some (.vl ((List.range K).map fun j => T.loc (m0 + j))), some (.int (0 + (i : Int))), some (.loc (m0 + j)), some (.int (w : Int))] = [some (.loc l), some (.vl [.str x, .str y, .str z, .str u]), some (.str x), some (.str y), some (.str z), some (.loc m), some (.vl ((List.range K).map fun j => T.loc (m0 + j))), o7, o8, o9] ∧
            rows'.length = K ∧ (∀ k (hk : k < rows'.length), (S13.set (m0 + j) (.lst (r'.map In.t)))[m0 + k]? = some (.lst (rows'[k].map In.t))) ∧ (∀ r ∈ rows', r.length ≤ 2 + (i + 1) ∧ ∀ i ∈ r, i.ok [x, y, z, u]) ∧ Fm l (B + 10 + 10 * (i + 1)) S (S13.set (m0 + j) (.lst (r'.map In.t))) ∧ (S13.set (m0 + j) (.lst (r'.map In.t))).length = m0 + K := by
        intro S13 r' hrow3 f13 hl13 hr1 hr2
        refine ⟨rows.set j r', _, _, _, rfl, by rw [List.length_set]; exact hlr, fun k hk => ?_, fun r hr => ?_, (f13.set (by omega)).mono (by omega), by rw [List.length_set]; exact hl13⟩
        · rw [List.length_set] at hk
          by_cases c : j = k
          · subst c
            rw [at_set (hrow3 j hj), List.getElem_set_self]
          · rw [at_setne (hrow3 k hk) (by omega), List.getElem_set_ne c]
        · rcases List.mem_or_eq_of_mem_set hr with hr | rfl
          · exact ⟨Nat.le_trans (hro r hr).1 (by omega), (hro r hr).2⟩
          · exact ⟨hr1, hr2⟩
      refine run_if ?_
      rw [rv_and, rv_cmp]
      refine ev_take1 (n := n + 2) (m := 4) (by rw [rv_con]; exact ⟨rfl, rfl⟩) rfl f12.ur (by omega) (by omega) (by omega) fun a S13 a0 a1 hu13 ho13 => ?_
      have f13 := (f12.only ho13 hu13).mono (B' := B + 20 + 10 * i) (by omega)
      have hrow3 : ∀ j (hj : j < rows.length), S13[m0 + j]? = some (.lst (rows[j].map In.t)) := fun j hj => ho13.at (hrow2 j hj) (f12.ne (by omega))
      have hr3 := hrow3 j hj
      have hl13 : S13.length = m0 + K := by rw [ho13.1, ho12.1, ho11.1]; exact hlen'
      rw [rv_con]
      refine ⟨_, eq_int, _, rfl, ?_⟩
      have ins : Run (execs ⟨callN tab W (n + 3), W⟩ (.cons (.exp (.mth (.loc 8) "insert" (.cons (.loc 9) (.cons (.call "_law_instruction" (.cons (.loc 0) (.cons (.loc 1) .nil)) [] .nil) .nil)))) .nil) [some (.loc l), some (.vl [.str x, .str y, .str z, .str u]), some (.str x), some (.str y), some (.str z), some (.loc m), some (.vl ((List.range K).map fun j => T.loc (m0 + j))), some (.int (0 + (i : Int))), some (.loc (m0 + j)), some (.int (w : Int))] S13)
          fun r S' => r = (.nx, [some (.loc l), some (.vl [.str x, .str y, .str z, .str u]), some (.str x), some (.str y), some (.str z), some (.loc m), some (.vl ((List.range K).map fun j => T.loc (m0 + j))), some (.int (0 + (i : Int))), some (.loc (m0 + j)), some (.int (w : Int))]) ∧ ∃ (S14 : Sto) (r' : List In), S' = S14.set (m0 + j) (.lst (r'.map In.t)) ∧ (∀ j (hj : j < rows.length), S14[m0 + j]? = some (.lst (rows[j].map In.t))) ∧ Fm l (B + 20 + 10 * i) S S14 ∧ S14.length = m0 + K ∧ r'.length ≤ 2 + (i + 1) ∧ (∀ i ∈ r', i.ok [x, y, z, u]) := by
        rw [rxs_cons, rx_exp]
        refine run_mthL (l := m0 + j) ?_
        rw [rv_loc]
        refine ⟨_, rfl, rfl, ⟨_, hr3⟩, ?_⟩
        rw [rs_cons, rv_loc]
        refine ⟨_, rfl, ?_⟩
        rw [rs_cons, rv_call, rs_cons, rv_loc]
        refine ⟨_, rfl, ?_⟩
        rw [rs_cons, rv_loc]
        refine ⟨_, rfl, ?_⟩
        rw [rs_nil, rs_nil]
        refine t_instruction (tab := tab) (N := [x, y, z, u]) (n := n) (f12.only ho13 hu13).ur (by omega) (by simp) (by simp) fun e S14 he hu14 ho14 => ?_
        have hrow4 : ∀ j (hj : j < rows.length), S14[m0 + j]? = some (.lst (rows[j].map In.t)) := fun j hj => ho14.at (hrow3 j hj) (f13.ne (by omega))
        rw [rs_nil]
        refine ⟨_, hrow4 j hj, ?_⟩
        rw [mth_ins (by rw [List.length_map]; unfold lim; omega) (by omega), rv_ok, nx_nx, rxs_nil]
        refine ⟨rfl, S14, rows[j].take w ++ e :: rows[j].drop w, by simp, hrow4, ((f12.only ho13 hu13).only ho14 hu14).mono (by omega), by rw [ho14.1]; exact hl13, ?_, fun k hk => ?_⟩
        · simp
          omega
        · rcases List.mem_append.mp hk with hk | hk
          · exact hrj.2 k (List.mem_of_mem_take hk)
          · rcases List.mem_cons.mp hk with rfl | hk
            · exact he
            · exact hrj.2 k (List.mem_of_mem_drop hk)
      cases c : (a == 0) with
      | false =>
        rw [if_neg (by decide)]
        exact ⟨false, rfl, fun z => absurd z (by decide), fun _ => ins.mono fun r S' ⟨e1, S14, r', e2, g1, g2, g3, g4, g5⟩ => by
          subst e1 e2
          rw [nx_nx, rxs_nil, turn_nx]
          exact ⟨trivial, wr S14 r' g1 g2 g3 g4 g5⟩⟩
      | true =>
        rw [if_pos rfl, rv_cmp, rv_loc]
        refine ⟨_, rfl, ?_⟩
        rw [rv_lst, rs_nil]
        refine ⟨by simp [lim], ?_⟩
        refine ⟨!(rows[j].map In.t).isEmpty, by rw [vw0_loc hr3]; rfl, _, rfl, fun hne => ?_, fun _ => ins.mono fun r S' ⟨e1, S14, r', e2, g1, g2, g3, g4, g5⟩ => by
          subst e1 e2
          rw [nx_nx, rxs_nil, turn_nx]
          exact ⟨trivial, wr S14 r' g1 g2 g3 g4 g5⟩⟩
        have hne : rows[j] ≠ [] := by intro z; rw [z] at hne; cases hne
        have hpos : 0 < rows[j].length := List.length_pos_iff.mpr hne
        rw [rxs_cons, rx_exp]
        refine run_mthL (l := m0 + j) ?_
        rw [rv_loc]
        refine ⟨_, rfl, rfl, ⟨_, hr3⟩, ?_⟩
        rw [rs_cons, rv_bin, rv_loc]
        refine ⟨_, rfl, ?_⟩
        rw [rv_bif, rs_cons, rv_loc]
        refine ⟨_, rfl, ?_⟩
        rw [rs_nil]
        refine ⟨_, by rw [List.map_cons, List.map_nil, vw0_loc hr3, bif_len_vl], ?_⟩
        rw [List.length_map]
        refine ⟨.int ((w % rows[j].length : Nat) : Int), by rw [vw0_int, vw0_int, mod_int (by omega)]; congr 2, ?_⟩
        rw [rs_nil]
        refine ⟨_, hr3, ?_⟩
        have hk : w % rows[j].length < rows[j].length := Nat.mod_lt _ hpos
        have hx : (rows[j].map In.t)[w % rows[j].length]? = some (rows[j][w % rows[j].length]).t := by simp [hk]
        rw [mth_popN hx (by omega), rv_ok, nx_nx, rxs_nil, nx_nx, rxs_nil, turn_nx, erase_map]
        refine ⟨trivial, wr S13 _ hrow3 f13 hl13 ?_ fun k hk => hrj.2 k (List.mem_of_mem_eraseIdx hk)⟩
        rw [List.length_eraseIdx]
        split <;> omega
    · rintro ρ S' ⟨rows, o7, o8, o9, rfl, hlr, hrow, hro, f, hlen'⟩
      rw [rng_len] at hro f
      rw [nx_nx]
      refine run_ret ?_
      rw [rv_bty, rs_cons, rv_comp, ri_plain, rv_loc]
      refine ⟨_, rfl, _, rfl, ?_⟩
      refine run_compP (fun t => match vw S' t with | .vl xs => some (.tup xs) | _ => none) (by simp [lim]; omega) (fun t ht => ?_) ?_
      · rw [← hlr] at ht
        obtain ⟨j, hj, rfl, hr⟩ := row_at hrow ht
        rw [rv_bind, rv_opt]
        refine ⟨_, rfl, ?_⟩
        rw [rv_bind, rc_nil, if_pos rfl, rv_bind, rv_bty, rs_cons, rv_loc]
        refine ⟨_, rfl, ?_⟩
        rw [rs_nil]
        refine ⟨_, by rw [List.map_cons, List.map_nil, vw0_loc hr, bty_tupv], ?_⟩
        rw [rv_ok, vw0_loc hr]
        exact ⟨rfl, rfl⟩
      · have e : ((List.range K).map fun j => T.loc (m0 + j)).filterMap (fun t => match vw S' t with | .vl xs => some (T.tup xs) | _ => none) = rows.map rowT := by
          rw [List.filterMap_map, ← hlr]
          refine List.ext_getElem? fun j => ?_
          have key : ∀ j ∈ List.range rows.length, ((fun t => match vw S' t with | .vl xs => some (T.tup xs) | _ => none) ∘ fun j => T.loc (m0 + j)) j = some (rowT (rows.getD j [])) := fun j hj => by
            have hj := List.mem_range.mp hj
            show (match vw S' (T.loc (m0 + j)) with | .vl xs => some (T.tup xs) | _ => none) = _
            rw [vw0_loc (hrow j hj)]
            simp [rowT, hj]
          rw [fm_congr key]
          by_cases hj : j < rows.length
          · simp [hj]
          · simp [hj]
        rw [e, rs_nil]
        refine ⟨planT rows, rfl, ?_⟩
        rw [fin_rt']
        refine f.gc (plan_bel rows) fun S2 hu2 ho2 => h rows S2 ⟨⟨[x, y, z, u], by simp, hnd, hpool, fun r hr => (hro r hr).2⟩, by omega, by omega, fun r hr => by have := (hro r hr).1; omega⟩ (hu2.mono (by omega)) ho2
end Px.sh
end
section
set_option linter.all false
set_option maxRecDepth 100000
/-! Sh12: rows of instructions, pure functions over them. -/
namespace Px.sh
open PySem Px
variable {W n : Nat} {S : Sto} {P : T → Sto → Prop}
def In.wd : In → Str
  | .fence => "fence"
  | .acc w _ => w
def In.vr : In → Str
  | .fence => ""
  | .acc _ x => x
def In.isSt (i : In) : Bool := decide (i.wd = "store")
def In.isLd (i : In) : Bool := decide (i.wd = "load")
def In.isSw (i : In) : Bool := decide (i.wd = "swap")
def In.isFe (i : In) : Bool := decide (i.wd = "fence")
/-- an instruction of words and variables that are known -/
def In.good (i : In) : Prop := ∃ N, (∀ x ∈ N, x ∈ pool) ∧ i.ok N
theorem pool_flat : ∀ x ∈ pool, (T.str x).flat = true := by decide +kernel
theorem words_flat : ∀ x ∈ words, (T.str x).flat = true := by decide +kernel
theorem wd_flat {i : In} (h : i.good) : (T.str i.wd).flat = true := by
  obtain ⟨N, _, h⟩ := h
  cases i with
  | fence => decide +kernel
  | acc w x => exact words_flat w h.1
theorem vr_flat {i : In} (h : i.good) : (T.str i.vr).flat = true := by
  obtain ⟨N, hN, h⟩ := h
  cases i with
  | fence => decide +kernel
  | acc w x => exact pool_flat x (hN x h.2)
theorem wd_cases {i : In} (h : i.good) : i = .fence ∨ ∃ x, i = .acc "store" x ∨ i = .acc "load" x ∨ i = .acc "swap" x := by
  obtain ⟨N, _, h⟩ := h
  cases i with
  | fence => exact .inl rfl
  | acc w x =>
    have hw := h.1
    simp only [words, List.mem_cons, List.not_mem_nil, or_false] at hw
    rcases hw with rfl | rfl | rfl
    · exact .inr ⟨x, .inl rfl⟩
    · exact .inr ⟨x, .inr (.inl rfl)⟩
    · exact .inr ⟨x, .inr (.inr rfl)⟩
theorem in_flat {i : In} (h : i.good) : i.t.flat = true := by
  have h1 := wd_flat h
  have h2 := vr_flat h
  cases i with
  | fence => decide +kernel
  | acc w x =>
    show (T.flat (.str w) && (T.flat (.str x) && true)) = true
    rw [show T.flat (.str w) = true from h1, show T.flat (.str x) = true from h2]; rfl
theorem in_at0 (i : In) : idxT i.t (.int 0) = some (.str i.wd) := by cases i <;> rfl
theorem in_at1 {i : In} (h : i ≠ .fence) : idxT i.t (.int 1) = some (.str i.vr) := by
  cases i with
  | fence => exact absurd rfl h
  | acc w x => rfl
theorem eqv_str {x y : Str} : (PyData.str x).eqv (.str y) = decide (x = y) := by
  by_cases h : x = y <;> simp [PyData.eqv, h]
theorem st_depth {x : Str} : (T.str x).dat.depth = 0 := by simp [T.dat, PyData.depth]
theorem flatL_map {α : Type} (f : α → T) : ∀ {xs : List α}, (∀ x ∈ xs, (f x).flat = true) → T.flatL (xs.map f) = true
  | [], _ => rfl
  | x :: xs, h => by
    show ((f x).flat && T.flatL (xs.map f)) = true
    rw [h x (by simp), flatL_map f fun y hy => h y (by simp [hy])]; rfl
theorem in_strs {x : Str} {ys : List Str} (hx : (T.str x).flat = true) (hy : ∀ y ∈ ys, (T.str y).flat = true) : inT (.str x) (ys.map .str) = some (decide (x ∈ ys)) := by
  unfold inT
  rw [hx, flatL_map T.str hy, st_depth, decide_eq_true (by omega)]
  show some _ = _
  congr 1
  rw [Bool.eq_iff_iff]
  simp only [List.any_map, List.any_eq_true, Function.comp_apply, T.dat, eqv_str, decide_eq_true_eq]
  exact ⟨fun ⟨y, h1, h2⟩ => h2 ▸ h1, fun h => ⟨x, h, rfl⟩⟩
theorem in_depth (i : In) : i.t.dat.depth ≤ 1 := by cases i <;> simp [In.t, T.dat, T.datL, PyData.depth, PyData.depthAll]
theorem eqv_in (i j : In) : i.t.dat.eqv j.t.dat = decide (i = j) := by
  cases i <;> cases j <;> simp [In.t, T.dat, T.datL, PyData.eqv, PyData.eqvAll, eqv_str]
  rw [Bool.eq_iff_iff]; simp
theorem in_ins {i : In} {r : List In} (hi : i.good) (hr : ∀ j ∈ r, j.good) : inT i.t (r.map In.t) = some (decide (i ∈ r)) := by
  unfold inT
  rw [in_flat hi, flatL_map In.t fun j hj => in_flat (hr j hj), decide_eq_true (by have := in_depth i; omega)]
  show some _ = _
  congr 1
  rw [Bool.eq_iff_iff]
  simp only [List.any_map, List.any_eq_true, Function.comp_apply, eqv_in, decide_eq_true_eq]
  exact ⟨fun ⟨y, h1, h2⟩ => h2 ▸ h1, fun h => ⟨i, h, rfl⟩⟩
/-! ### slices -/
theorem cut_map {α β : Type} (f : α → β) (xs : List α) (lo hi : Option Int) : cut (xs.map f) lo hi = (cut xs lo hi).map f := by
  unfold cut
  rw [List.length_map, List.map_take, List.map_drop]
theorem sIx_n {m d k : Nat} (h : k ≤ m) : HT.sIx m d (some (k : Int)) = k := by
  rw [HT.sIx_nat]; omega
def mid {α : Type} (r : List α) (a b : Nat) : List α := (r.drop a).take (b - a)
theorem cut_mid {α : Type} {r : List α} {a b : Nat} (h : a ≤ r.length) (h2 : b ≤ r.length) : cut r (some (a : Int)) (some (b : Int)) = mid r a b := by
  unfold cut mid
  rw [sIx_n h, sIx_n h2]
theorem mid_mem {α : Type} {r : List α} {a b : Nat} {x : α} (h : x ∈ mid r a b) : x ∈ r := List.mem_of_mem_drop (List.mem_of_mem_take h)
theorem mid_len {α : Type} {r : List α} {a b : Nat} : (mid r a b).length ≤ r.length := by unfold mid; simp; omega
theorem mid_snoc {α : Type} {r : List α} {a b : Nat} (h : a ≤ b) (hb : b < r.length) : mid r a (b + 1) = mid r a b ++ [r[b]] := by
  unfold mid
  rw [show b + 1 - a = (b - a) + 1 by omega, List.take_add_one, List.getElem?_drop, show a + (b - a) = b by omega, List.getElem?_eq_getElem hb]
  rfl
/-! ### a function's own list alone -/
theorem gc_new {v : T} {o : Ob} (hv : v.bel S.length = true) (h : P v S) : Run (gc S v (S ++ [o])) P := by
  refine gc_run (by simp) (fun i hi => .inl (by rw [List.getElem?_append_left hi])) hv ?_
  rw [List.take_left]
  exact h
theorem gc_newL {xs : List T} (hv : T.belL S.length xs = true) (h : P (.vl xs) S) : Run (gc S (.loc S.length) (S ++ [.lst xs])) P := by
  unfold gc
  rw [if_pos ⟨fun i hi => .inl (by rw [List.getElem?_append_left hi]), by simp⟩, if_neg (by simp [T.bel])]
  simp only [at_new]
  rw [if_pos hv, List.take_left]
  exact h
theorem set_new {o u : Ob} : (S ++ [o]).set S.length u = S ++ [u] := by
  rw [List.set_append_right _ _ (Nat.le_refl _), Nat.sub_self]; rfl
theorem blsOf_map {α : Type} (f : α → Bool) : ∀ xs : List α, blsOf (xs.map fun x => T.bl (f x)) = some (xs.map f)
  | [] => rfl
  | x :: xs => by
    show (blsOf (xs.map fun x => T.bl (f x))).map _ = _
    rw [blsOf_map f xs]; rfl
theorem fm_some {α β : Type} (f : α → β) : ∀ xs : List α, xs.filterMap (fun x => some (f x)) = xs.map f
  | [] => rfl
  | x :: xs => by rw [List.filterMap_cons, fm_some f xs]; rfl
end Px.sh
end
section
set_option linter.all false
set_option maxRecDepth 100000
/-! Sh13: loose pairs, by the program and by the laws. -/
namespace Px.sh
open PySem L2 Px
def b_is_access_to : Sms := (.cons (.ret (.cmp .ne (.idx (.loc 0) (.con (.int 0))) (.con (.str "fence"))))
  .nil)
def fn_is_access_to : Fn := ⟨["instruction"], 1, false, b_is_access_to⟩
class F_is_access_to (tab : Str → Option Fn) : Prop where h : tab "is_access_to" = some fn_is_access_to
def b_empties : Sms := (.cons (.ret (.cmp .in_ (.idx (.loc 0) (.con (.int 0))) (.tup (.cons (.con (.str "fence")) (.cons (.con (.str "swap")) .nil)))))
  .nil)
def fn_empties : Fn := ⟨["instruction"], 1, false, b_empties⟩
class F_empties (tab : Str → Option Fn) : Prop where h : tab "empties" = some fn_empties
def b_queued : Sms := (.cons (.asg (.nm 4) (.comp [5] (.nm 5) (.plain (.slc (.loc 0) (.some (.loc 2)) (.some (.loc 3)))) (.cons (.cmp .eq (.idx (.loc 5) (.con (.int 0))) (.con (.str "store"))) .nil) (.loc 5)))
  (.cons (.ret (.ife (.cmp .eq (.loc 1) (.con (.str "line"))) (.bif "len" (.cons (.loc 4) .nil)) (.bif "len" (.cons (.comp [5] (.nm 5) (.plain (.loc 4)) (.cons (.cmp .eq (.idx (.loc 5) (.con (.int 1))) (.idx (.idx (.loc 0) (.loc 2)) (.con (.int 1)))) .nil) (.loc 5)) .nil))))
  .nil))
def fn_queued : Fn := ⟨["instructions", "word", "early", "late"], 6, false, b_queued⟩
class F_queued (tab : Str → Option Fn) : Prop where h : tab "queued" = some fn_queued
def b_is_turnable : Sms := (.cons (.par [4, 5] (.cons (.idx (.loc 0) (.loc 2)) (.cons (.idx (.loc 0) (.loc 3)) .nil)))
  (.cons (.ife (.or (.cmp .ne (.idx (.loc 4) (.con (.int 0))) (.con (.str "store"))) (.or (.not (.call "is_access_to" (.cons (.loc 5) .nil) [] .nil)) (.cmp .eq (.idx (.loc 4) (.con (.int 1))) (.idx (.loc 5) (.con (.int 1)))))) (.cons (.ret (.con (.bl false)))
  .nil) .nil)
  (.cons (.ife (.bif "any" (.cons (.comp [6] (.nm 6) (.plain (.slc (.loc 0) (.some (.bin .add (.loc 2) (.con (.int 1)))) (.some (.bin .add (.loc 3) (.con (.int 1)))))) .nil (.call "empties" (.cons (.loc 6) .nil) [] .nil)) .nil)) (.cons (.ret (.con (.bl false)))
  .nil) .nil)
  (.cons (.ret (.or (.cmp .eq (.loc 1) (.con (.str "lanes"))) (.and (.cmp .eq (.idx (.loc 5) (.con (.int 0))) (.con (.str "load"))) (.cmp .nin (.tup (.cons (.con (.str "store")) (.cons (.idx (.loc 5) (.con (.int 1))) .nil))) (.slc (.loc 0) (.some (.bin .add (.loc 2) (.con (.int 1)))) (.some (.loc 3)))))))
  .nil))))
def fn_is_turnable : Fn := ⟨["instructions", "word", "early", "late"], 7, false, b_is_turnable⟩
class F_is_turnable (tab : Str → Option Fn) : Prop where h : tab "is_turnable" = some fn_is_turnable
def b_loose_pairs : Sms := (.cons (.asg (.tps [2, 3]) (.loc 1))
  (.cons (.asg (.nm 4) (.new (.lst .nil)))
  (.cons (.for (.tps [5, 6]) (.enum (.loc 0)) (.cons (.for (.nm 7) (.range (.cons (.bif "len" (.cons (.loc 6) .nil)) .nil)) (.cons (.for (.nm 8) (.range (.cons (.bin .add (.loc 7) (.con (.int 1))) (.cons (.bif "len" (.cons (.loc 6) .nil)) .nil))) (.cons (.ife (.and (.call "is_turnable" (.cons (.loc 6) (.cons (.loc 2) (.cons (.loc 7) (.cons (.loc 8) .nil)))) [] .nil) (.cmp .le (.call "queued" (.cons (.loc 6) (.cons (.loc 2) (.cons (.loc 7) (.cons (.loc 8) .nil)))) [] .nil) (.loc 3))) (.cons (.exp (.mth (.loc 4) "append" (.cons (.tup (.cons (.loc 5) (.cons (.loc 7) (.cons (.loc 8) .nil)))) .nil)))
  .nil) .nil)
  .nil))
  .nil))
  .nil))
  (.cons (.ret (.bty "tuple" (.cons (.loc 4) .nil)))
  .nil))))
def fn_loose_pairs : Fn := ⟨["program", "buffers"], 9, false, b_loose_pairs⟩
class F_loose_pairs (tab : Str → Option Fn) : Prop where h : tab "loose_pairs" = some fn_loose_pairs
def b__law_waits : Sms := (.cons (.asg (.nm 4) (.comp [5] (.nm 5) (.plain (.slc (.loc 0) (.some (.loc 2)) (.some (.loc 3)))) (.cons (.cmp .eq (.idx (.loc 5) (.con (.int 0))) (.con (.str "store"))) .nil) (.idx (.loc 5) (.con (.int 1)))))
  (.cons (.ret (.ife (.cmp .eq (.loc 1) (.con (.str "line"))) (.bif "len" (.cons (.loc 4) .nil)) (.mth (.loc 4) "count" (.cons (.idx (.idx (.loc 0) (.loc 2)) (.con (.int 1))) .nil))))
  .nil))
def fn__law_waits : Fn := ⟨["_law_row", "_law_kind", "_law_early", "_law_late"], 6, false, b__law_waits⟩
class F__law_waits (tab : Str → Option Fn) : Prop where h : tab "_law_waits" = some fn__law_waits
def b__law_is_loose : Sms := (.cons (.par [4, 5] (.cons (.idx (.loc 0) (.loc 2)) (.cons (.idx (.loc 0) (.loc 3)) .nil)))
  (.cons (.asg (.nm 6) (.slc (.loc 0) (.some (.bin .add (.loc 2) (.con (.int 1)))) (.some (.loc 3))))
  (.cons (.ife (.or (.cmp .ne (.idx (.loc 4) (.con (.int 0))) (.con (.str "store"))) (.or (.cmp .nin (.idx (.loc 5) (.con (.int 0))) (.tup (.cons (.con (.str "load")) (.cons (.con (.str "store")) .nil)))) (.cmp .eq (.idx (.loc 4) (.con (.int 1))) (.idx (.loc 5) (.con (.int 1)))))) (.cons (.ret (.con (.bl false)))
  .nil) .nil)
  (.cons (.ife (.bif "any" (.cons (.comp [7] (.nm 7) (.plain (.loc 6)) .nil (.cmp .in_ (.idx (.loc 7) (.con (.int 0))) (.tup (.cons (.con (.str "fence")) (.cons (.con (.str "swap")) .nil))))) .nil)) (.cons (.ret (.con (.bl false)))
  .nil) .nil)
  (.cons (.ife (.cmp .gt (.call "_law_waits" (.cons (.loc 0) (.cons (.idx (.loc 1) (.con (.int 0))) (.cons (.loc 2) (.cons (.loc 3) .nil)))) [] .nil) (.idx (.loc 1) (.con (.int 1)))) (.cons (.ret (.con (.bl false)))
  .nil) .nil)
  (.cons (.ret (.or (.cmp .eq (.idx (.loc 1) (.con (.int 0))) (.con (.str "lanes"))) (.and (.cmp .eq (.idx (.loc 5) (.con (.int 0))) (.con (.str "load"))) (.cmp .nin (.tup (.cons (.con (.str "store")) (.cons (.idx (.loc 5) (.con (.int 1))) .nil))) (.loc 6)))))
  .nil))))))
def fn__law_is_loose : Fn := ⟨["_law_row", "_law_box_here", "_law_early", "_law_late"], 8, false, b__law_is_loose⟩
class F__law_is_loose (tab : Str → Option Fn) : Prop where h : tab "_law_is_loose" = some fn__law_is_loose
def b__law_loose : Sms := (.cons (.asg (.nm 2) (.new (.lst .nil)))
  (.cons (.for (.tps [3, 4]) (.enum (.loc 0)) (.cons (.for (.nm 5) (.range (.cons (.bif "len" (.cons (.loc 4) .nil)) .nil)) (.cons (.for (.nm 6) (.range (.cons (.bin .add (.loc 5) (.con (.int 1))) (.cons (.bif "len" (.cons (.loc 4) .nil)) .nil))) (.cons (.ife (.call "_law_is_loose" (.cons (.loc 4) (.cons (.loc 1) (.cons (.loc 5) (.cons (.loc 6) .nil)))) [] .nil) (.cons (.exp (.mth (.loc 2) "append" (.cons (.tup (.cons (.loc 3) (.cons (.loc 5) (.cons (.loc 6) .nil)))) .nil)))
  .nil) .nil)
  .nil))
  .nil))
  .nil))
  (.cons (.ret (.loc 2))
  .nil)))
def fn__law_loose : Fn := ⟨["_law_plan_here", "_law_box_here"], 7, false, b__law_loose⟩
class F__law_loose (tab : Str → Option Fn) : Prop where h : tab "_law_loose" = some fn__law_loose
variable {tab : Str → Option Fn} {W n : Nat} {S : Sto} {P : T → Sto → Prop}
def kind (ln : Bool) : Str := if ln = true then "lanes" else "line"
def boxT (ln : Bool) (room : Nat) : T := .tup [.str (kind ln), .int room]
def waits (ln : Bool) (r : List In) (f : In) (e l : Nat) : Nat := if ln = true then (mid r e l).countP fun i => i.isSt && decide (i.vr = f.vr) else (mid r e l).countP In.isSt
/-- whether (e, l) is a loose pair of a row, by the document -/
def lsB (ln : Bool) (room : Nat) (r : List In) (e l : Nat) : Bool := match r[e]?, r[l]? with
  | some f, some s => f.isSt && (s.isSt || s.isLd) && !decide (f.vr = s.vr) && !((mid r (e + 1) l).any fun i => i.isFe || i.isSw) && decide (waits ln r f e l ≤ room) && (ln || (s.isLd && !decide (In.acc "store" s.vr ∈ mid r (e + 1) l)))
  | _, _ => false
theorem good_st {i : In} (h : i.good) (hs : i.isSt = true) : i = .acc "store" i.vr := by
  rcases wd_cases h with rfl | ⟨x, rfl | rfl | rfl⟩
  · revert hs; decide
  · rfl
  · exact absurd (of_decide_eq_true hs) (by show ¬ (("load" : Str) = "store"); decide)
  · exact absurd (of_decide_eq_true hs) (by show ¬ (("swap" : Str) = "store"); decide)
theorem kind_line (ln : Bool) : cmpT .eq (.str (kind ln)) (.str "line") = some (!ln) := by cases ln <;> (rw [eq_str]; decide)
theorem kind_lanes (ln : Bool) : cmpT .eq (.str (kind ln)) (.str "lanes") = some ln := by cases ln <;> (rw [eq_str]; decide)
theorem row_get {r : List In} {e : Nat} {f : In} (h : r[e]? = some f) : idxT (rowT r) (.int e) = some f.t := by
  show L2.atI (r.map In.t) (e : Int) = _
  exact at_nat (by rw [List.getElem?_map, h]; rfl)
theorem row_cut {r : List In} {a b : Nat} (h : a ≤ r.length) (h2 : b ≤ r.length) : slcT (rowT r) (some (a : Int)) (some (b : Int)) = some (rowT (mid r a b)) := by
  show some (T.tup (cut (r.map In.t) _ _)) = _
  rw [cut_map, cut_mid h h2]; rfl
theorem fs_store : cmpT .eq (.str "store") (.str "store") = some true := by rw [eq_str]; decide
/-- the stores of a slice -/
theorem fm_st (f : In → T) : ∀ r : List In, (r.map In.t).filterMap (fun t => match idxT t (.int 0) with | some (.str w) => if w = Str.ofString "store" then some t else none | _ => none) = (r.filter In.isSt).map In.t
  | [] => rfl
  | i :: r => by
    rw [List.map_cons, List.filterMap_cons, in_at0, fm_st f r, List.filter_cons]
    by_cases h : i.wd = Str.ofString "store"
    · simp [In.isSt, h]
    · simp [In.isSt, h]
theorem t_is_access [F_is_access_to tab] {i : In} (h : P (.bl (!i.isFe)) S) : Run (callN tab W (n + 1) "is_access_to" [i.t] [] S) P := by
  refine run_call (fn := fn_is_access_to) (as := [i.t]) F_is_access_to.h (by rfl) ?_
  show Run (execs _ b_is_access_to [some i.t] S) (Fin false S P)
  unfold b_is_access_to
  refine run_ret ?_
  rw [rv_cmp, rv_idx, rv_loc]
  refine ⟨_, rfl, ?_⟩
  rw [rv_con]
  refine ⟨_, by rw [show vw S i.t = i.t by cases i <;> rfl]; exact in_at0 i, ?_⟩
  rw [rv_con]
  exact ⟨_, ne_str, by rw [fin_rt', gc_bl]; exact h⟩
theorem two_flat : ∀ y ∈ ([("fence" : Str), "swap"] : List Str), (T.str y).flat = true := by decide +kernel
theorem two_flat2 : ∀ y ∈ ([("load" : Str), "store"] : List Str), (T.str y).flat = true := by decide +kernel
theorem emp_eq (i : In) : decide (i.wd ∈ ([("fence" : Str), "swap"] : List Str)) = (i.isFe || i.isSw) := by
  rw [Bool.eq_iff_iff]; simp [In.isFe, In.isSw]
theorem lst_eq (i : In) : decide (i.wd ∈ ([("load" : Str), "store"] : List Str)) = (i.isSt || i.isLd) := by
  rw [Bool.eq_iff_iff]; simp [In.isLd, In.isSt]; exact Or.comm
theorem emp_in {i : In} (h : i.good) : cmpT .in_ (.str i.wd) (.tup [.str "fence", .str "swap"]) = some (i.isFe || i.isSw) := by
  rw [← emp_eq]; exact in_strs (wd_flat h) two_flat
theorem lst_nin {i : In} (h : i.good) : cmpT .nin (.str i.wd) (.tup [.str "load", .str "store"]) = some (!(i.isSt || i.isLd)) := by
  rw [← lst_eq]
  show (inT (.str i.wd) ([("load" : Str), "store"].map .str)).map (!·) = _
  rw [in_strs (wd_flat h) two_flat2]; rfl
theorem t_empties [F_empties tab] {i : In} (hi : i.good) (h : P (.bl (i.isFe || i.isSw)) S) : Run (callN tab W (n + 1) "empties" [i.t] [] S) P := by
  refine run_call (fn := fn_empties) (as := [i.t]) F_empties.h (by rfl) ?_
  show Run (execs _ b_empties [some i.t] S) (Fin false S P)
  unfold b_empties
  refine run_ret ?_
  rw [rv_cmp, rv_idx, rv_loc]
  refine ⟨_, rfl, ?_⟩
  rw [rv_con]
  refine ⟨_, by rw [show vw S i.t = i.t by cases i <;> rfl]; exact in_at0 i, ?_⟩
  refine run_v (.tup [.str "fence", .str "swap"]) (by simp [lim]) ?_
  exact ⟨_, emp_in hi, by rw [fin_rt', gc_bl]; exact h⟩
def gv (x : Str) (t : T) : Option T := match idxT t (.int 1) with
  | some (.str y) => if y = x then some t else none
  | _ => none
theorem gv_of {x y : Str} {t : T} (h : idxT t (.int 1) = some (.str y)) : gv x t = if y = x then some t else none := by unfold gv; rw [h]
theorem gv_len (x : Str) : ∀ q : List In, (∀ i ∈ q, i.good) → (((q.filter In.isSt).map In.t).filterMap (gv x)).length = q.countP fun i => i.isSt && decide (i.vr = x)
  | [], _ => rfl
  | i :: q, hq => by
    have ih := gv_len x q fun i hi => hq i (by simp [hi])
    rw [List.filter_cons, List.countP_cons]
    by_cases c : i.isSt = true
    · have a1 : idxT i.t (.int 1) = some (.str i.vr) := in_at1 (by rw [good_st (hq i (by simp)) c]; exact fun z => by cases z)
      rw [if_pos c, List.map_cons, List.filterMap_cons, gv_of a1]
      by_cases c2 : i.vr = x
      · rw [if_pos c2, if_pos (by rw [c, decide_eq_true c2]; rfl), List.length_cons, ih]
      · rw [if_neg c2, if_neg (by rw [decide_eq_false c2, Bool.and_false]; decide), ih]
        rfl
    · rw [if_neg c, if_neg (by rw [Bool.eq_false_iff.mpr c, Bool.false_and]; decide), ih]
      rfl
/-- queued -/
theorem t_queued [F_queued tab] {r : List In} {ln : Bool} {e l : Nat} {f : In} (hr : ∀ i ∈ r, i.good) (hrl : r.length ≤ 1000) (hf : r[e]? = some f) (hs : f.isSt = true) (hl : l < r.length) (h : P (.int (waits ln r f e l)) S) :
    Run (callN tab W (n + 1) "queued" [rowT r, .str (kind ln), .int e, .int l] [] S) P := by
  refine run_call (fn := fn_queued) (as := [rowT r, .str (kind ln), .int e, .int l]) F_queued.h (by rfl) ?_
  show Run (execs _ b_queued [some (rowT r), some (.str (kind ln)), some (.int e), some (.int l), none, none] S) (Fin false S P)
  unfold b_queued
  have he : e < r.length := (List.getElem?_eq_some_iff.mp hf).1
  have hml : (mid r e l).length ≤ 1000 := Nat.le_trans mid_len hrl
  refine run_asg ?_
  rw [rv_comp, ri_plain, rv_slc, rv_loc]
  refine ⟨_, rfl, ?_⟩
  rw [ro_some, rv_loc]
  refine ⟨_, rfl, _, rfl, ?_⟩
  rw [ro_some, rv_loc]
  refine ⟨_, rfl, _, rfl, ?_⟩
  refine ⟨_, row_cut (Nat.le_of_lt he) (Nat.le_of_lt hl), _, rfl, ?_⟩
  refine run_compP (fun t => match idxT t (.int 0) with | some (.str w) => if w = Str.ofString "store" then some t else none | _ => none) (by simp [lim]; omega) (fun t ht => ?_) ?_
  · obtain ⟨i, hi, rfl⟩ := List.mem_map.mp ht
    rw [rv_bind, rv_opt]
    refine ⟨_, rfl, ?_⟩
    rw [rv_bind, rc_cons, rv_cmp, rv_idx, rv_loc]
    refine ⟨_, rfl, ?_⟩
    rw [rv_con]
    refine ⟨_, by rw [show vw S i.t = i.t by cases i <;> rfl]; exact in_at0 i, ?_⟩
    rw [rv_con]
    refine ⟨_, eq_str, _, rfl, ?_⟩
    rw [in_at0]
    by_cases c : i.wd = Str.ofString "store"
    · rw [if_pos (decide_eq_true c), rc_nil, if_pos rfl, rv_bind, rv_loc]
      refine ⟨_, rfl, ?_⟩
      rw [rv_ok]
      exact ⟨by simp [c], rfl⟩
    · rw [if_neg (by simp [c]), rv_ok, if_neg (by decide), rv_ok]
      exact ⟨by simp [c], rfl⟩
  · rw [fm_st (fun i => i.t)]
    show Run (execs _ _ [some (rowT r), some (.str (kind ln)), some (.int e), some (.int l), some (.vl (((mid r e l).filter In.isSt).map In.t)), none] S) _
    refine run_ret ?_
    rw [rv_ife, rv_cmp, rv_loc]
    refine ⟨_, rfl, ?_⟩
    rw [rv_con]
    refine ⟨_, kind_line ln, _, rfl, ?_⟩
    cases ln with
    | false =>
      rw [if_pos (show (!false) = true by decide), rv_bif, rs_cons, rv_loc]
      refine ⟨_, rfl, ?_⟩
      rw [rs_nil]
      refine ⟨_, by rw [List.map_cons, List.map_nil, vw0_vl, bif_len_vl], ?_⟩
      rw [fin_rt', gc_int, List.length_map, ← List.countP_eq_length_filter]
      exact h
    | true =>
      rw [if_neg (show ¬ (!true) = true by decide), rv_bif, rs_cons, rv_comp, ri_plain, rv_loc]
      refine ⟨_, rfl, _, rfl, ?_⟩
      have hlen : ((mid r e l).filter In.isSt).length ≤ 1000 := Nat.le_trans (List.length_filter_le _ _) hml
      refine run_compP (gv f.vr) (by simp [lim]; omega) (fun t ht => ?_) ?_
      · obtain ⟨i, hi, rfl⟩ := List.mem_map.mp ht
        obtain ⟨hi, his⟩ := List.mem_filter.mp hi
        have hg := good_st (hr i (mid_mem hi)) his
        have hfg := good_st (hr f (List.mem_of_getElem? hf)) hs
        have a1 : idxT i.t (.int 1) = some (.str i.vr) := in_at1 (by rw [hg]; exact fun z => by cases z)
        have a2 : idxT f.t (.int 1) = some (.str f.vr) := in_at1 (by rw [hfg]; exact fun z => by cases z)
        rw [rv_bind, rv_opt]
        refine ⟨_, rfl, ?_⟩
        rw [rv_bind, rc_cons, rv_cmp, rv_idx, rv_loc]
        refine ⟨_, rfl, ?_⟩
        rw [rv_con]
        refine ⟨_, by rw [show vw S i.t = i.t by cases i <;> rfl]; exact a1, ?_⟩
        rw [rv_idx, rv_idx, rv_loc]
        refine ⟨_, rfl, ?_⟩
        rw [rv_loc]
        refine ⟨_, rfl, _, row_get hf, ?_⟩
        rw [rv_con]
        refine ⟨_, by rw [show vw S f.t = f.t by cases f <;> rfl]; exact a2, ?_⟩
        refine ⟨_, eq_str, _, rfl, ?_⟩
        rw [gv_of a1]
        by_cases c : i.vr = f.vr
        · rw [if_pos (decide_eq_true c), rc_nil, if_pos rfl, rv_bind, rv_loc]
          refine ⟨_, rfl, ?_⟩
          rw [rv_ok]
          exact ⟨by simp [c], rfl⟩
        · rw [if_neg (by simp [c]), rv_ok, if_neg (by decide), rv_ok]
          exact ⟨by simp [c], rfl⟩
      · rw [rs_nil]
        refine ⟨_, by rw [List.map_cons, List.map_nil, vw0_vl, bif_len_vl], ?_⟩
        rw [fin_rt', gc_int]
        rw [gv_len _ _ fun i hi => hr i (mid_mem hi)]
        exact h
end Px.sh
end
section
set_option linter.all false
set_option maxRecDepth 100000
/-! Sh14: is_turnable, _law_waits, _law_is_loose. -/
namespace Px.sh
open PySem Px
variable {tab : Str → Option Fn} {W n : Nat} {S : Sto} {P : T → Sto → Prop}
theorem vw_in (i : In) : vw S i.t = i.t := by cases i <;> rfl
theorem bl_run {C : Cfg} {e : Ex} {ρ : Env} {S : Sto} {P : T → Sto → Prop} (b : Bool) (h : Run (ev C e ρ S) fun x S' => x = .bl b ∧ S' = S) (k : P (.bl b) S) : Run (ev C e ρ S) P := run_v _ h k
/-- e[i] of a local -/
theorem ev_idx {C : Cfg} {i : Nat} {j : Int} {t v : T} {ρ : Env} {P : T → Sto → Prop} (h : ρ[i]? = some (some t)) (hv : vw S t = t) (hx : idxT t (.int j) = some v) (k : P v S) : Run (ev C (.idx (.loc i) (.con (.int j))) ρ S) P := by
  rw [rv_idx, rv_loc]
  refine ⟨_, h, ?_⟩
  rw [rv_con]
  exact ⟨v, by rw [hv]; exact hx, k⟩
/-- a test of an element: e[0] == "word" -/
theorem ev_wd {C : Cfg} {i : Nat} {u : In} {w : Str} {ρ : Env} {P : T → Sto → Prop} (h : ρ[i]? = some (some u.t)) (k : P (.bl (decide (u.wd = w))) S) : Run (ev C (.cmp .eq (.idx (.loc i) (.con (.int 0))) (.con (.str w))) ρ S) P := by
  rw [rv_cmp]
  refine ev_idx h (vw_in u) (in_at0 u) ?_
  rw [rv_con]
  exact ⟨_, eq_str, k⟩
theorem ev_wdn {C : Cfg} {i : Nat} {u : In} {w : Str} {ρ : Env} {P : T → Sto → Prop} (h : ρ[i]? = some (some u.t)) (k : P (.bl (!decide (u.wd = w))) S) : Run (ev C (.cmp .ne (.idx (.loc i) (.con (.int 0))) (.con (.str w))) ρ S) P := by
  rw [rv_cmp]
  refine ev_idx h (vw_in u) (in_at0 u) ?_
  rw [rv_con]
  exact ⟨_, ne_str, k⟩
theorem ne_fence {u : In} (h : u.isFe = false) : u ≠ .fence := by rintro rfl; exact absurd h (by decide)
/-- e[1] == f[1] -/
theorem ev_vr {C : Cfg} {i j : Nat} {u v : In} {ρ : Env} {P : T → Sto → Prop} (h : ρ[i]? = some (some u.t)) (h2 : ρ[j]? = some (some v.t)) (hu : u ≠ .fence) (hv : v ≠ .fence) (k : P (.bl (decide (u.vr = v.vr))) S) : Run (ev C (.cmp .eq (.idx (.loc i) (.con (.int 1))) (.idx (.loc j) (.con (.int 1)))) ρ S) P := by
  rw [rv_cmp]
  refine ev_idx h (vw_in u) (in_at1 hu) ?_
  refine ev_idx h2 (vw_in v) (in_at1 hv) ?_
  exact ⟨_, eq_str, k⟩
/-- .. and (store, s[1]) not in a slice -/
theorem ev_nin {C : Cfg} {i : Nat} {u : In} {sl : Ex} {q : List In} {mk : List T → T} {ρ : Env} {P : T → Sto → Prop} (h : ρ[i]? = some (some u.t)) (hu : u ≠ .fence) (hg : u.good) (hq : ∀ i ∈ q, i.good) (hs : ∀ P : T → Sto → Prop, P (mk (q.map In.t)) S → Run (ev C sl ρ S) P) (hmk : mk = T.tup ∨ mk = T.vl)
    (k : P (.bl (!decide (In.acc "store" u.vr ∈ q))) S) : Run (ev C (.cmp .nin (.tup (.cons (.con (.str "store")) (.cons (.idx (.loc i) (.con (.int 1))) .nil))) sl) ρ S) P := by
  rw [rv_cmp, rv_tup, rs_cons, rv_con, rs_cons]
  refine ev_idx h (vw_in u) (in_at1 hu) ?_
  rw [rs_nil]
  refine ⟨by simp [lim], ?_⟩
  refine hs _ ?_
  refine ⟨!decide (In.acc "store" u.vr ∈ q), ?_, k⟩
  have hgd : (In.acc "store" u.vr).good := by
    obtain ⟨N, h1, h2⟩ := hg
    cases u with
    | fence => exact absurd rfl hu
    | acc w x => exact ⟨N, h1, by decide, h2.2⟩
  have e : inT (In.acc "store" u.vr).t (q.map In.t) = some (decide (In.acc "store" u.vr ∈ q)) := in_ins hgd hq
  rcases hmk with rfl | rfl
  · show (inT (In.acc "store" u.vr).t (q.map In.t)).map (!·) = _
    rw [e]; rfl
  · show (inT (In.acc "store" u.vr).t (q.map In.t)).map (!·) = _
    rw [e]; rfl
def empT (t : T) : Bool := match idxT t (.int 0) with
  | some (.str w) => decide (w ∈ ([("fence" : Str), "swap"] : List Str))
  | _ => false
theorem empT_of (i : In) : empT i.t = (i.isFe || i.isSw) := by
  unfold empT
  rw [in_at0]
  exact emp_eq i
theorem st_nf {u : In} (h : u.isSt = true) : u ≠ .fence := by rintro rfl; exact absurd h (by decide)
def ltB (ln : Bool) (r : List In) (e l : Nat) : Bool := match r[e]?, r[l]? with
  | some f, some s => f.isSt && !s.isFe && !decide (f.vr = s.vr) && !((mid r (e + 1) (l + 1)).any fun i => i.isFe || i.isSw) && (ln || (s.isLd && !decide (In.acc "store" s.vr ∈ mid r (e + 1) l)))
  | _, _ => false
theorem t_turnable [F_is_access_to tab] [F_empties tab] [F_is_turnable tab] {r : List In} {ln : Bool} {e l : Nat} (hr : ∀ i ∈ r, i.good) (hrl : r.length ≤ 1000) (he : e < l) (hl : l < r.length) (h : P (.bl (ltB ln r e l)) S) :
    Run (callN tab W (n + 2) "is_turnable" [rowT r, .str (kind ln), .int e, .int l] [] S) P := by
  refine run_call (fn := fn_is_turnable) (as := [rowT r, .str (kind ln), .int e, .int l]) F_is_turnable.h (by rfl) ?_
  show Run (execs _ b_is_turnable [some (rowT r), some (.str (kind ln)), some (.int e), some (.int l), none, none, none] S) (Fin false S P)
  unfold b_is_turnable
  have hf := List.getElem?_eq_getElem (show e < r.length by omega)
  have hs := List.getElem?_eq_getElem hl
  have gf := hr r[e] (List.getElem_mem _)
  have gs := hr r[l] (List.getElem_mem _)
  unfold ltB at h
  rw [hf, hs] at h
  generalize r[e] = f at hf gf h
  generalize r[l] = s at hs gs h
  dsimp only at h
  refine run_par2 ?_
  rw [rv_idx, rv_loc]
  refine ⟨_, rfl, ?_⟩
  rw [rv_loc]
  refine ⟨_, rfl, _, row_get hf, ?_⟩
  rw [rv_idx, rv_loc]
  refine ⟨_, rfl, ?_⟩
  rw [rv_loc]
  refine ⟨_, rfl, _, row_get hs, ?_⟩
  show Run (execs _ _ [some (rowT r), some (.str (kind ln)), some (.int e), some (.int l), some f.t, some s.t, none] S) _
  have ret : ∀ b : Bool, P (.bl b) S → ∀ ρ : Env, Fin false S P (.rt (.bl b), ρ) S := fun b hb ρ => by rw [fin_rt', gc_bl]; exact hb
  -- the first test
  refine run_if ?_
  rw [rv_or]
  refine ev_wdn rfl ⟨_, rfl, ?_⟩
  cases c1 : f.isSt with
  | false =>
    have c1' : decide (f.wd = Str.ofString "store") = false := c1
    rw [c1', if_pos (by decide), rv_ok]
    refine ⟨_, rfl, fun _ => ?_, fun z => by cases z⟩
    refine run_ret ?_
    rw [rv_con, nx_rt]
    exact ret false (by rw [c1] at h; exact h) _
  | true =>
    have c1' : decide (f.wd = Str.ofString "store") = true := c1
    rw [c1', if_neg (by decide), rv_or, rv_not, rv_call, rs_cons, rv_loc]
    refine ⟨_, rfl, ?_⟩
    rw [rs_nil, rs_nil]
    refine t_is_access (tab := tab) (n := n) (i := s) ⟨_, rfl, ?_⟩
    refine ⟨_, rfl, ?_⟩
    rw [c1, Bool.true_and] at h
    cases c2 : s.isFe with
    | true =>
      rw [if_pos (by decide), rv_ok]
      refine ⟨_, rfl, fun _ => ?_, fun z => by cases z⟩
      refine run_ret ?_
      rw [rv_con, nx_rt]
      exact ret false (by rw [c2] at h; exact h) _
    | false =>
      rw [if_neg (by decide)]
      rw [c2, Bool.not_false, Bool.true_and] at h
      refine ev_vr rfl rfl (st_nf c1) (ne_fence c2) ⟨_, rfl, fun hv => ?_, fun hv => ?_⟩
      · refine run_ret ?_
        rw [rv_con, nx_rt]
        exact ret false (by rw [hv] at h; exact h) _
      · rw [hv, Bool.not_false, Bool.true_and] at h
        rw [rxs_nil, nx_nx]
        -- any
        refine run_if ?_
        rw [rv_bif, rs_cons, rv_comp, ri_plain, rv_slc, rv_loc]
        refine ⟨_, rfl, ?_⟩
        rw [ro_some, rv_bin, rv_loc]
        refine ⟨_, rfl, ?_⟩
        rw [rv_con]
        refine ⟨.int ((e + 1 : Nat) : Int), rfl, _, rfl, ?_⟩
        rw [ro_some, rv_bin, rv_loc]
        refine ⟨_, rfl, ?_⟩
        rw [rv_con]
        refine ⟨.int ((l + 1 : Nat) : Int), rfl, _, rfl, ?_⟩
        refine ⟨_, row_cut (by omega) (by omega), _, rfl, ?_⟩
        have hml : (mid r (e + 1) (l + 1)).length ≤ 1000 := Nat.le_trans mid_len hrl
        refine run_compP (fun t => some (.bl (empT t))) (by simp [lim]; omega) (fun t ht => ?_) ?_
        · obtain ⟨i, hi, rfl⟩ := List.mem_map.mp ht
          rw [rv_bind, rv_opt]
          refine ⟨_, rfl, ?_⟩
          rw [rv_bind, rc_nil, if_pos rfl, rv_bind, rv_call, rs_cons, rv_loc]
          refine ⟨_, rfl, ?_⟩
          rw [rs_nil, rs_nil]
          refine t_empties (tab := tab) (n := n) (hr i (mid_mem hi)) ?_
          rw [rv_ok, empT_of]
          exact ⟨rfl, rfl⟩
        · rw [fm_some, List.map_map]
          have e1 : (mid r (e + 1) (l + 1)).map ((fun t => T.bl (empT t)) ∘ In.t) = (mid r (e + 1) (l + 1)).map fun i => T.bl (i.isFe || i.isSw) := List.map_congr_left fun i _ => congrArg T.bl (empT_of i)
          rw [e1, rs_nil]
          refine ⟨.bl ((mid r (e + 1) (l + 1)).any fun i => i.isFe || i.isSw), ?_, _, rfl, fun hv => ?_, fun hv => ?_⟩
          · show bifT "any" [.vl _] = _
            rw [bif_any, blsOf_map]
            simp [List.any_map]
          · refine run_ret ?_
            rw [rv_con, nx_rt]
            exact ret false (by rw [hv] at h; exact h) _
          · rw [hv, Bool.not_false, Bool.true_and] at h
            rw [rxs_nil, nx_nx]
            refine run_ret ?_
            rw [rv_or, rv_cmp, rv_loc]
            refine ⟨_, rfl, ?_⟩
            rw [rv_con]
            refine ⟨_, kind_lanes ln, _, rfl, ?_⟩
            cases ln with
            | true => rw [if_pos rfl, rv_ok]; exact ret true h _
            | false =>
              rw [Bool.false_or] at h
              rw [if_neg (by decide), rv_and]
              refine ev_wd rfl ⟨_, rfl, ?_⟩
              cases c3 : s.isLd with
              | false =>
                have c3' : decide (s.wd = Str.ofString "load") = false := c3
                rw [c3', if_neg (by decide), rv_ok]
                exact ret false (by rw [c3] at h; exact h) _
              | true =>
                have c3' : decide (s.wd = Str.ofString "load") = true := c3
                rw [c3', if_pos rfl]
                rw [c3, Bool.true_and] at h
                refine ev_nin (q := mid r (e + 1) l) (mk := T.tup) rfl (ne_fence c2) gs (fun i hi => hr i (mid_mem hi)) (fun Q hq => ?_) (.inl rfl) (ret _ h _)
                rw [rv_slc, rv_loc]
                refine ⟨_, rfl, ?_⟩
                rw [ro_some, rv_bin, rv_loc]
                refine ⟨_, rfl, ?_⟩
                rw [rv_con]
                refine ⟨.int ((e + 1 : Nat) : Int), rfl, _, rfl, ?_⟩
                rw [ro_some, rv_loc]
                refine ⟨_, rfl, _, rfl, ?_⟩
                exact ⟨_, row_cut (by omega) (by omega), hq⟩
end Px.sh
end
section
set_option linter.all false
set_option maxRecDepth 100000
/-! Sh15: _law_waits, _law_is_loose; the program's two tests together. -/
namespace Px.sh
open PySem Px
variable {tab : Str → Option Fn} {W n : Nat} {S : Sto} {P : T → Sto → Prop}
def gw (t : T) : Option T := match idxT t (.int 0) with
  | some (.str w) => if w = Str.ofString "store" then idxT t (.int 1) else none
  | _ => none
theorem gw_of (i : In) : gw i.t = if i.wd = Str.ofString "store" then idxT i.t (.int 1) else none := by unfold gw; rw [in_at0]
theorem gw_map : ∀ q : List In, (∀ i ∈ q, i.good) → (q.map In.t).filterMap gw = ((q.filter In.isSt).map In.vr).map T.str
  | [], _ => rfl
  | i :: q, hq => by
    have ih := gw_map q fun i hi => hq i (by simp [hi])
    rw [List.map_cons, List.filterMap_cons, gw_of, List.filter_cons]
    by_cases c : i.isSt = true
    · have c' : i.wd = Str.ofString "store" := of_decide_eq_true c
      have a1 : idxT i.t (.int 1) = some (.str i.vr) := in_at1 (st_nf c)
      rw [if_pos c', if_pos c, a1, ih]; rfl
    · have c' : ¬ i.wd = Str.ofString "store" := fun z => c (decide_eq_true z)
      rw [if_neg c', if_neg c, ih]
theorem cnt_vr (x : Str) : ∀ q : List In, (((q.filter In.isSt).map In.vr).map T.str).countP (fun y => y.dat.eqv (T.str x).dat) = q.countP fun i => i.isSt && decide (i.vr = x)
  | [] => rfl
  | i :: q => by
    have ih := cnt_vr x q
    rw [List.filter_cons, List.countP_cons]
    by_cases c : i.isSt = true
    · rw [if_pos c, List.map_cons, List.map_cons, List.countP_cons, ih]
      have e : (T.str i.vr).dat.eqv (T.str x).dat = decide (i.vr = x) := eqv_str
      rw [e, c, Bool.true_and]
    · rw [if_neg c, ih, Bool.eq_false_iff.mpr c, Bool.false_and]; rfl
theorem t_waits [F__law_waits tab] {r : List In} {ln : Bool} {e l : Nat} {f : In} (hr : ∀ i ∈ r, i.good) (hrl : r.length ≤ 1000) (hf : r[e]? = some f) (hs : f.isSt = true) (hl : l < r.length) (h : P (.int (waits ln r f e l)) S) :
    Run (callN tab W (n + 1) "_law_waits" [rowT r, .str (kind ln), .int e, .int l] [] S) P := by
  refine run_call (fn := fn__law_waits) (as := [rowT r, .str (kind ln), .int e, .int l]) F__law_waits.h (by rfl) ?_
  show Run (execs _ b__law_waits [some (rowT r), some (.str (kind ln)), some (.int e), some (.int l), none, none] S) (Fin false S P)
  unfold b__law_waits
  have he : e < r.length := (List.getElem?_eq_some_iff.mp hf).1
  have hml : (mid r e l).length ≤ 1000 := Nat.le_trans mid_len hrl
  have gm : ∀ i ∈ mid r e l, i.good := fun i hi => hr i (mid_mem hi)
  refine run_asg ?_
  rw [rv_comp, ri_plain, rv_slc, rv_loc]
  refine ⟨_, rfl, ?_⟩
  rw [ro_some, rv_loc]
  refine ⟨_, rfl, _, rfl, ?_⟩
  rw [ro_some, rv_loc]
  refine ⟨_, rfl, _, rfl, ?_⟩
  refine ⟨_, row_cut (Nat.le_of_lt he) (Nat.le_of_lt hl), _, rfl, ?_⟩
  refine run_compP gw (by simp [lim]; omega) (fun t ht => ?_) ?_
  · obtain ⟨i, hi, rfl⟩ := List.mem_map.mp ht
    rw [rv_bind, rv_opt]
    refine ⟨_, rfl, ?_⟩
    rw [rv_bind, rc_cons]
    refine ev_wd (u := i) rfl ⟨_, rfl, ?_⟩
    rw [gw_of]
    by_cases c : i.wd = Str.ofString "store"
    · rw [if_pos (decide_eq_true c), rc_nil, if_pos rfl, rv_bind, if_pos c]
      have a1 : idxT i.t (.int 1) = some (.str i.vr) := in_at1 (st_nf (decide_eq_true c))
      refine ev_idx (t := i.t) rfl (vw_in i) a1 ?_
      rw [rv_ok, a1]
      exact ⟨rfl, rfl⟩
    · rw [if_neg (by simp [c]), rv_ok, if_neg (by decide), rv_ok, if_neg c]
      exact ⟨rfl, rfl⟩
  · rw [show (((mid r e l).map In.t, locOf (rowT (mid r e l))).1).filterMap gw = _ from gw_map _ gm]
    show Run (execs _ _ [some (rowT r), some (.str (kind ln)), some (.int e), some (.int l), some (.vl ((((mid r e l).filter In.isSt).map In.vr).map T.str)), none] S) _
    refine run_ret ?_
    rw [rv_ife, rv_cmp, rv_loc]
    refine ⟨_, rfl, ?_⟩
    rw [rv_con]
    refine ⟨_, kind_line ln, _, rfl, ?_⟩
    cases ln with
    | false =>
      rw [if_pos (show (!false) = true by decide), rv_bif, rs_cons, rv_loc]
      refine ⟨_, rfl, ?_⟩
      rw [rs_nil]
      refine ⟨_, by rw [List.map_cons, List.map_nil, vw0_vl, bif_len_vl], ?_⟩
      rw [fin_rt', gc_int, List.length_map, List.length_map, ← List.countP_eq_length_filter]
      exact h
    | true =>
      rw [if_neg (show ¬ (!true) = true by decide), rv_mth, rv_loc]
      refine ⟨_, rfl, ?_⟩
      dsimp only
      rw [rv_bind, rs_cons, rv_idx, rv_idx, rv_loc]
      refine ⟨_, rfl, ?_⟩
      rw [rv_loc]
      refine ⟨_, rfl, _, row_get hf, ?_⟩
      rw [rv_con]
      refine ⟨_, by rw [vw_in]; exact in_at1 (st_nf hs), ?_⟩
      rw [rs_nil, rv_opt]
      have fl : T.flatL ((((mid r e l).filter In.isSt).map In.vr).map T.str) = true := by
        refine flatL_map T.str fun x hx => ?_
        obtain ⟨i, hi, rfl⟩ := List.mem_map.mp hx
        exact vr_flat (gm i (List.mem_filter.mp hi).1)
      refine ⟨.int (waits true r f e l), ?_, ?_⟩
      · show gd ((T.str f.vr).flat && T.flatL ((((mid r e l).filter In.isSt).map In.vr).map T.str) && decide ((T.str f.vr).dat.depth ≤ 60)) (T.int (((((mid r e l).filter In.isSt).map In.vr).map T.str).countP fun y => y.dat.eqv (T.str f.vr).dat)) = _
        rw [vr_flat (hr f (List.mem_of_getElem? hf)), fl, st_depth, decide_eq_true (by omega), cnt_vr]
        rfl
      · rw [fin_rt', gc_int]; exact h
theorem wd_key : ∀ w ∈ words, (decide (w = ("store" : Str)) || decide (w = ("load" : Str))) = (!decide (w = ("fence" : Str)) && !(decide (w = ("fence" : Str)) || decide (w = ("swap" : Str)))) := by decide
/-- both agree -/
theorem lsB_eq {ln : Bool} {room : Nat} {r : List In} {e l : Nat} {f : In} (hr : ∀ i ∈ r, i.good) (he : e < l) (hl : l < r.length) (hf : r[e]? = some f) : lsB ln room r e l = (ltB ln r e l && decide (waits ln r f e l ≤ room)) := by
  unfold lsB ltB
  rw [hf, List.getElem?_eq_getElem hl]
  dsimp only
  rw [mid_snoc (by omega) hl, List.any_append]
  have gs := hr r[l] (List.getElem_mem _)
  generalize r[l] = s at gs
  have key : (s.isSt || s.isLd) = (!s.isFe && !(s.isFe || s.isSw)) := by
    obtain ⟨N, _, gs⟩ := gs
    cases s with
    | fence => decide
    | acc w x => exact wd_key w gs.1
  rw [key]
  simp only [List.any_cons, List.any_nil, Bool.or_false]
  generalize (mid r (e + 1) l).any _ = a
  generalize f.isSt = b
  generalize decide (f.vr = s.vr) = c
  generalize decide (waits ln r f e l ≤ room) = d
  generalize (ln || _) = g
  generalize s.isFe = x
  generalize s.isSw = y
  cases a <;> cases b <;> cases c <;> cases d <;> cases g <;> cases x <;> cases y <;> rfl
theorem box_at0 {ln : Bool} {room : Nat} : idxT (boxT ln room) (.int 0) = some (.str (kind ln)) := rfl
theorem box_at1 {ln : Bool} {room : Nat} : idxT (boxT ln room) (.int 1) = some (.int room) := rfl
theorem t_is_loose [F__law_waits tab] [F__law_is_loose tab] {r : List In} {ln : Bool} {room e l : Nat} (hr : ∀ i ∈ r, i.good) (hrl : r.length ≤ 1000) (he : e < l) (hl : l < r.length) (h : P (.bl (lsB ln room r e l)) S) :
    Run (callN tab W (n + 2) "_law_is_loose" [rowT r, boxT ln room, .int e, .int l] [] S) P := by
  refine run_call (fn := fn__law_is_loose) (as := [rowT r, boxT ln room, .int e, .int l]) F__law_is_loose.h (by rfl) ?_
  show Run (execs _ b__law_is_loose [some (rowT r), some (boxT ln room), some (.int e), some (.int l), none, none, none, none] S) (Fin false S P)
  unfold b__law_is_loose
  have hf := List.getElem?_eq_getElem (show e < r.length by omega)
  have hs := List.getElem?_eq_getElem hl
  have gf := hr r[e] (List.getElem_mem _)
  have gs := hr r[l] (List.getElem_mem _)
  unfold lsB at h
  rw [hf, hs] at h
  generalize r[e] = f at hf gf h
  generalize r[l] = s at hs gs h
  dsimp only at h
  refine run_par2 ?_
  rw [rv_idx, rv_loc]
  refine ⟨_, rfl, ?_⟩
  rw [rv_loc]
  refine ⟨_, rfl, _, row_get hf, ?_⟩
  rw [rv_idx, rv_loc]
  refine ⟨_, rfl, ?_⟩
  rw [rv_loc]
  refine ⟨_, rfl, _, row_get hs, ?_⟩
  show Run (execs _ _ [some (rowT r), some (boxT ln room), some (.int e), some (.int l), some f.t, some s.t, none, none] S) _
  refine run_asg ?_
  rw [rv_slc, rv_loc]
  refine ⟨_, rfl, ?_⟩
  rw [ro_some, rv_bin, rv_loc]
  refine ⟨_, rfl, ?_⟩
  rw [rv_con]
  refine ⟨.int ((e + 1 : Nat) : Int), rfl, _, rfl, ?_⟩
  rw [ro_some, rv_loc]
  refine ⟨_, rfl, _, rfl, ?_⟩
  refine ⟨_, row_cut (by omega) (by omega), ?_⟩
  show Run (execs _ _ [some (rowT r), some (boxT ln room), some (.int e), some (.int l), some f.t, some s.t, some (rowT (mid r (e + 1) l)), none] S) _
  have ret : ∀ b : Bool, P (.bl b) S → ∀ ρ : Env, Fin false S P (.rt (.bl b), ρ) S := fun b hb ρ => by rw [fin_rt', gc_bl]; exact hb
  refine run_if ?_
  rw [rv_or]
  refine ev_wdn rfl ⟨_, rfl, ?_⟩
  cases c1 : f.isSt with
  | false =>
    have c1' : decide (f.wd = Str.ofString "store") = false := c1
    rw [c1', if_pos (by decide), rv_ok]
    refine ⟨_, rfl, fun _ => ?_, fun z => by cases z⟩
    refine run_ret ?_
    rw [rv_con, nx_rt]
    exact ret false (by rw [c1] at h; exact h) _
  | true =>
    have c1' : decide (f.wd = Str.ofString "store") = true := c1
    rw [c1, Bool.true_and] at h
    rw [c1', if_neg (by decide), rv_or, rv_cmp]
    refine ev_idx (t := s.t) rfl (vw_in s) (in_at0 s) ?_
    refine run_v (.tup [.str "load", .str "store"]) (by simp [lim]) ?_
    refine ⟨_, lst_nin gs, _, rfl, ?_⟩
    cases c2 : (s.isSt || s.isLd) with
    | false =>
      rw [if_pos (by decide), rv_ok]
      refine ⟨_, rfl, fun _ => ?_, fun z => by cases z⟩
      refine run_ret ?_
      rw [rv_con, nx_rt]
      exact ret false (by rw [c2] at h; exact h) _
    | true =>
      have sf : s ≠ .fence := by rintro rfl; exact absurd c2 (by decide)
      rw [if_neg (by decide)]
      rw [c2, Bool.true_and] at h
      refine ev_vr rfl rfl (st_nf c1) sf ⟨_, rfl, fun hv => ?_, fun hv => ?_⟩
      · refine run_ret ?_
        rw [rv_con, nx_rt]
        exact ret false (by rw [hv] at h; exact h) _
      · rw [hv, Bool.not_false, Bool.true_and] at h
        rw [rxs_nil, nx_nx]
        refine run_if ?_
        rw [rv_bif, rs_cons, rv_comp, ri_plain, rv_loc]
        refine ⟨_, rfl, _, rfl, ?_⟩
        have hml : (mid r (e + 1) l).length ≤ 1000 := Nat.le_trans mid_len hrl
        refine run_compP (fun t => some (.bl (empT t))) (by simp [lim]; omega) (fun t ht => ?_) ?_
        · obtain ⟨i, hi, rfl⟩ := List.mem_map.mp ht
          rw [rv_bind, rv_opt]
          refine ⟨_, rfl, ?_⟩
          rw [rv_bind, rc_nil, if_pos rfl, rv_bind, rv_cmp]
          refine ev_idx (t := i.t) rfl (vw_in i) (in_at0 i) ?_
          refine run_v (.tup [.str "fence", .str "swap"]) (by simp [lim]) ?_
          refine ⟨_, emp_in (hr i (mid_mem hi)), ?_⟩
          rw [rv_ok, empT_of]
          exact ⟨rfl, rfl⟩
        · rw [fm_some, List.map_map]
          have e1 : (mid r (e + 1) l).map ((fun t => T.bl (empT t)) ∘ In.t) = (mid r (e + 1) l).map fun i => T.bl (i.isFe || i.isSw) := List.map_congr_left fun i _ => congrArg T.bl (empT_of i)
          rw [e1, rs_nil]
          refine ⟨.bl ((mid r (e + 1) l).any fun i => i.isFe || i.isSw), ?_, _, rfl, fun hv => ?_, fun hv => ?_⟩
          · show bifT "any" [.vl _] = _
            rw [bif_any, blsOf_map]
            simp [List.any_map]
          · refine run_ret ?_
            rw [rv_con, nx_rt]
            exact ret false (by rw [hv] at h; exact h) _
          · rw [hv, Bool.not_false, Bool.true_and] at h
            rw [rxs_nil, nx_nx]
            refine run_if ?_
            rw [rv_cmp, rv_call, rs_cons, rv_loc]
            refine ⟨_, rfl, ?_⟩
            rw [rs_cons]
            refine ev_idx (t := boxT ln room) rfl rfl box_at0 ?_
            rw [rs_cons, rv_loc]
            refine ⟨_, rfl, ?_⟩
            rw [rs_cons, rv_loc]
            refine ⟨_, rfl, ?_⟩
            rw [rs_nil, rs_nil]
            refine t_waits (tab := tab) (n := n) hr hrl hf c1 hl ?_
            refine ev_idx (t := boxT ln room) rfl rfl box_at1 ?_
            refine ⟨_, gt_int, _, rfl, fun hv => ?_, fun hv => ?_⟩
            · have hv : ¬ waits ln r f e l ≤ room := by have := of_decide_eq_true hv; omega
              refine run_ret ?_
              rw [rv_con, nx_rt]
              exact ret false (by rw [decide_eq_false hv] at h; exact h) _
            · have hv : waits ln r f e l ≤ room := by have := of_decide_eq_false hv; omega
              rw [decide_eq_true hv, Bool.true_and] at h
              rw [rxs_nil, nx_nx]
              refine run_ret ?_
              rw [rv_or, rv_cmp]
              refine ev_idx (t := boxT ln room) rfl rfl box_at0 ?_
              rw [rv_con]
              refine ⟨_, kind_lanes ln, _, rfl, ?_⟩
              cases ln with
              | true => rw [if_pos rfl, rv_ok]; exact ret true h _
              | false =>
                rw [Bool.false_or] at h
                rw [if_neg (by decide), rv_and]
                refine ev_wd (u := s) rfl ⟨_, rfl, ?_⟩
                cases c3 : s.isLd with
                | false =>
                  have c3' : decide (s.wd = Str.ofString "load") = false := c3
                  rw [c3', if_neg (by decide), rv_ok]
                  exact ret false (by rw [c3] at h; exact h) _
                | true =>
                  have c3' : decide (s.wd = Str.ofString "load") = true := c3
                  rw [c3', if_pos rfl]
                  rw [c3, Bool.true_and] at h
                  refine ev_nin (u := s) (q := mid r (e + 1) l) (mk := T.tup) rfl sf gs (fun i hi => hr i (mid_mem hi)) (fun Q hq => ?_) (.inl rfl) (ret _ h _)
                  rw [rv_loc]
                  exact ⟨_, rfl, hq⟩
end Px.sh
end
section
set_option linter.all false
set_option maxRecDepth 100000
/-! Sh16: all loose pairs: the three loops. -/
namespace Px.sh
open PySem Px
variable {tab : Str → Option Fn} {W n : Nat} {S : Sto} {P : T → Sto → Prop}
def tri (t e l : Nat) : T := .tup [.int t, .int e, .int l]
def trE (g : Nat → Nat → Bool) (t e k : Nat) : List T := (List.range k).filterMap fun j => if g e (e + 1 + j) = true then some (tri t e (e + 1 + j)) else none
def trT (g : Nat → Nat → Bool) (t n : Nat) : Nat → List T
  | 0 => []
  | k + 1 => trT g t n k ++ trE g t k (n - (k + 1))
/-- the triples of the first rows -/
def trP (g : List In → Nat → Nat → Bool) (p : List (List In)) : Nat → List T
  | 0 => []
  | k + 1 => trP g p k ++ (match p[k]? with | some r => trT (g r) k r.length r.length | none => [])
def trips (g : List In → Nat → Nat → Bool) (p : List (List In)) : List T := trP g p p.length
theorem trE_succ {g : Nat → Nat → Bool} {t e k : Nat} : trE g t e (k + 1) = trE g t e k ++ (if g e (e + 1 + k) = true then [tri t e (e + 1 + k)] else []) := by
  unfold trE
  rw [List.range_succ, List.filterMap_append]
  congr 1
  by_cases c : g e (e + 1 + k) = true <;> simp [c]
theorem trE_len {g : Nat → Nat → Bool} {t e k : Nat} : (trE g t e k).length ≤ k := by
  unfold trE
  exact Nat.le_trans (List.length_filterMap_le _ _) (by simp)
theorem trT_len {g : Nat → Nat → Bool} {t n : Nat} : ∀ k, (trT g t n k).length ≤ n * k
  | 0 => Nat.le_refl _
  | k + 1 => by
    have h1 := trT_len (g := g) (t := t) (n := n) k
    have h2 := trE_len (g := g) (t := t) (e := k) (k := n - (k + 1))
    show (trT g t n k ++ trE g t k (n - (k + 1))).length ≤ _
    rw [List.length_append, Nat.mul_succ]; omega
theorem loop_late {C : Cfg} {Q : Fl × Env → Sto → Prop} {r : List In} {g : Nat → Nat → Bool} {t e : Nat} {c : Ex} {ss : Sms} {acc : List T} (mk : Option T → Env) (iT iR iE iL iF : Nat)
    (hF : ∀ o, (mk o)[iF]? = some (some (.loc S.length))) (hT : ∀ o, (mk o)[iT]? = some (some (.int t))) (hR : ∀ o, (mk o)[iR]? = some (some (rowT r))) (hE : ∀ o, (mk o)[iE]? = some (some (.int e)))
    (hL : ∀ v, (mk (some v))[iL]? = some (some v)) (sL : ∀ o v, (mk o).set iL (some v) = mk (some v)) (he : e < r.length) (hr : r.length ≤ 100) (ha : acc.length ≤ 1000000)
    (hc : ∀ l S', e < l → l < r.length → Run (ev C c (mk (some (.int (l : Nat)))) S') fun x S2 => x = .bl (g e l) ∧ S2 = S')
    (h : ∀ o, Run (execs C ss (mk o) (S ++ [.lst (acc ++ trE g t e (r.length - (e + 1)))])) Q) (o : Option T) :
    Run (execs C (.cons (.for (.nm iL) (.range (.cons (.bin .add (.loc iE) (.con (.int 1))) (.cons (.bif "len" (.cons (.loc iR) .nil)) .nil))) (.cons (.ife c (.cons (.exp (.mth (.loc iF) "append" (.cons (.tup (.cons (.loc iT) (.cons (.loc iE) (.cons (.loc iL) .nil)))) .nil))) .nil) .nil) .nil)) ss) (mk o) (S ++ [.lst acc])) Q := by
  refine run_for ?_
  rw [ri_range, rs_cons, rv_bin, rv_loc]
  refine ⟨_, hE o, ?_⟩
  rw [rv_con]
  refine ⟨.int ((e + 1 : Nat) : Int), rfl, ?_⟩
  rw [rs_cons, rv_bif, rs_cons, rv_loc]
  refine ⟨_, hR o, ?_⟩
  rw [rs_nil]
  refine ⟨.int (r.length : Nat), by show some (T.int ((r.map In.t).length : Nat)) = _; rw [List.length_map], ?_⟩
  rw [rs_nil, rangeT_2]
  have b1 : (-4611686018427387904 : Int) ≤ ((e + 1 : Nat) : Int) := by omega
  have b2 : ((e + 1 : Nat) : Int) < 4611686018427387904 := by omega
  have b3 : (-4611686018427387904 : Int) ≤ (r.length : Int) := by omega
  have b4 : (r.length : Int) < 4611686018427387904 := by omega
  refine ⟨_, by rw [decide_eq_true b1, decide_eq_true b2, decide_eq_true b3, decide_eq_true b4]; rfl, ?_⟩
  refine run_forL (fun j ρ S' => ∃ o, ρ = mk o ∧ S' = S ++ [.lst (acc ++ trE g t e j)]) _ 0 _ _ ⟨o, rfl, by simp [trE]⟩ ?_ ?_
  · rintro j x ρ S' hx ⟨o, rfl, rfl⟩
    obtain ⟨rfl, hj⟩ := rng_at hx
    have hj : j < r.length - (e + 1) := by omega
    rw [Nat.zero_add]
    rw [rv_bind, rv_opt]
    refine ⟨_, rfl, ?_⟩
    rw [sL]
    have ej : (((e + 1 : Nat) : Int) + (j : Int)) = ((e + 1 + j : Nat) : Int) := by omega
    rw [ej]
    refine run_if ((hc (e + 1 + j) _ (by omega) (by omega)).mono fun x S2 ⟨e1, e2⟩ => ?_)
    subst e1 e2
    refine ⟨_, rfl, fun hg => ?_, fun hg => ?_⟩
    · rw [rxs_cons, rx_exp]
      refine run_mthL (l := S.length) ?_
      rw [rv_loc]
      refine ⟨_, hF _, rfl, ⟨_, at_new⟩, ?_⟩
      rw [rs_cons, rv_tup, rs_cons, rv_loc]
      refine ⟨_, hT _, ?_⟩
      rw [rs_cons, rv_loc]
      refine ⟨_, hE _, ?_⟩
      rw [rs_cons, rv_loc]
      refine ⟨_, hL _, ?_⟩
      rw [rs_nil]
      refine ⟨by simp [lim], ?_⟩
      rw [rs_nil]
      refine ⟨_, at_new, ?_⟩
      have hl := trE_len (g := g) (t := t) (e := e) (k := j)
      rw [mth_app (by rw [List.length_append]; unfold lim; omega), rv_ok, nx_nx, rxs_nil, nx_nx, rxs_nil, turn_nx]
      refine ⟨trivial, _, rfl, ?_⟩
      rw [set_new, trE_succ, if_pos hg, List.append_assoc]; rfl
    · rw [rxs_nil, nx_nx, rxs_nil, turn_nx]
      refine ⟨trivial, _, rfl, ?_⟩
      rw [trE_succ, if_neg (by rw [hg]; decide), List.append_nil]
  · rintro ρ S' ⟨o, rfl, rfl⟩
    rw [rng_len, nx_nx, show 0 + ((r.length : Int) - ((e + 1 : Nat) : Int)).toNat = r.length - (e + 1) by omega]
    exact h o
theorem loop_pairs {C : Cfg} {Q : Fl × Env → Sto → Prop} {p : List (List In)} {g : List In → Nat → Nat → Bool} {c : Ex} {ss : Sms} (mk : Option T → Option T → Option T → Option T → Env) (iP iT iR iE iL iF : Nat) (nTR : iT ≠ iR)
    (hP : ∀ a b c d, (mk a b c d)[iP]? = some (some (planT p))) (hF : ∀ a b c d, (mk a b c d)[iF]? = some (some (.loc S.length)))
    (hT : ∀ v b c d, (mk (some v) b c d)[iT]? = some (some v)) (hR : ∀ a v c d, (mk a (some v) c d)[iR]? = some (some v)) (hE : ∀ a b v d, (mk a b (some v) d)[iE]? = some (some v)) (hL : ∀ a b c v, (mk a b c (some v))[iL]? = some (some v))
    (sTR : ∀ a b c d v w, ((mk a b c d).set iT (some v)).set iR (some w) = mk (some v) (some w) c d) (sE : ∀ a b c d v, (mk a b c d).set iE (some v) = mk a b (some v) d) (sL : ∀ a b c d v, (mk a b c d).set iL (some v) = mk a b c (some v))
    (hp : p.length ≤ 6) (hr : ∀ r ∈ p, r.length ≤ 100)
    (hc : ∀ (t : Nat) (r : List In) (e l : Nat) S', r ∈ p → e < l → l < r.length → Run (ev C c (mk (some (.int t)) (some (rowT r)) (some (.int e)) (some (.int l))) S') fun x S2 => x = .bl (g r e l) ∧ S2 = S')
    (h : ∀ a b c d, Run (execs C ss (mk a b c d) (S ++ [.lst (trips g p)])) Q) (a b c' d : Option T) :
    Run (execs C (.cons (.for (.tps [iT, iR]) (.enum (.loc iP)) (.cons (.for (.nm iE) (.range (.cons (.bif "len" (.cons (.loc iR) .nil)) .nil)) (.cons (.for (.nm iL) (.range (.cons (.bin .add (.loc iE) (.con (.int 1))) (.cons (.bif "len" (.cons (.loc iR) .nil)) .nil))) (.cons (.ife c (.cons (.exp (.mth (.loc iF) "append" (.cons (.tup (.cons (.loc iT) (.cons (.loc iE) (.cons (.loc iL) .nil)))) .nil))) .nil) .nil) .nil)) .nil)) .nil)) ss) (mk a b c' d) (S ++ [.lst []])) Q := by
  refine run_for ?_
  rw [ri_enum, rv_loc]
  refine ⟨_, hP _ _ _ _, _, rfl, ?_⟩
  refine run_forL (fun k ρ S' => ∃ a b c d, ρ = mk a b c d ∧ S' = S ++ [.lst (trP g p k)] ∧ (trP g p k).length ≤ 10000 * k) _ 0 _ _ ⟨a, b, c', d, rfl, rfl, Nat.zero_le _⟩ ?_ ?_
  · rintro t x ρ S' hx ⟨a, b, c1, d, rfl, rfl, hlen⟩
    rw [Nat.zero_add] at hlen ⊢
    have hx' : ∃ r, p[t]? = some r ∧ x = .tup [.int t, rowT r] := by
      unfold pairN at hx
      rw [List.getElem?_map, List.getElem?_zipIdx, Nat.zero_add, List.getElem?_map] at hx
      cases q : p[t]? with
      | none => rw [q] at hx; cases hx
      | some r => rw [q] at hx; cases hx; exact ⟨r, rfl, rfl⟩
    obtain ⟨r, hrt, rfl⟩ := hx'
    have hrm := List.mem_of_getElem? hrt
    have ht : t < p.length := (List.getElem?_eq_some_iff.mp hrt).1
    have hrl := hr r hrm
    rw [rv_bind, rv_opt]
    refine ⟨_, rfl, ?_⟩
    rw [sTR]
    refine run_for ?_
    rw [ri_range, rs_cons, rv_bif, rs_cons, rv_loc]
    refine ⟨_, hR _ _ _ _, ?_⟩
    rw [rs_nil]
    refine ⟨.int (r.length : Nat), by show some (T.int ((r.map In.t).length : Nat)) = _; rw [List.length_map], ?_⟩
    rw [rs_nil, rangeT_1]
    have b3 : (-4611686018427387904 : Int) ≤ (r.length : Int) := by omega
    have b4 : (r.length : Int) < 4611686018427387904 := by omega
    refine ⟨_, by rw [decide_eq_true b3, decide_eq_true b4]; rfl, ?_⟩
    refine run_forL (fun e ρ S' => ∃ c d, ρ = mk (some (.int t)) (some (rowT r)) c d ∧ S' = S ++ [.lst (trP g p t ++ trT (g r) t r.length e)]) _ 0 _ _ ⟨c1, d, rfl, by simp [trT]⟩ ?_ ?_
    · rintro e x ρ S' hx ⟨c2, d, rfl, rfl⟩
      obtain ⟨rfl, he⟩ := rng_at hx
      have he : e < r.length := by omega
      rw [Nat.zero_add]
      rw [rv_bind, rv_opt]
      refine ⟨_, rfl, ?_⟩
      rw [sE, show (0 + (e : Int)) = (e : Int) by omega]
      have hl1 := trT_len (g := g r) (t := t) (n := r.length) e
      have hl2 : r.length * e ≤ 100 * 100 := Nat.mul_le_mul hrl (by omega)
      refine loop_late (r := r) (g := g r) (t := t) (e := e) (fun o => mk (some (.int t)) (some (rowT r)) (some (.int e)) o) iT iR iE iL iF (fun o => hF _ _ _ _) (fun o => hT _ _ _ _) (fun o => hR _ _ _ _) (fun o => hE _ _ _ _) (fun v => hL _ _ _ _) (fun o v => sL _ _ _ _ _) he hrl (by rw [List.length_append]; omega) (fun l S' h1 h2 => hc t r e l S' hrm h1 h2) (fun o => ?_) d
      rw [rxs_nil, turn_nx]
      exact ⟨trivial, _, _, rfl, by rw [List.append_assoc]; rfl⟩
    · rintro ρ S' ⟨c2, d, rfl, rfl⟩
      rw [rng_len, nx_nx, rxs_nil, turn_nx, show 0 + ((r.length : Int) - 0).toNat = r.length by omega]
      have e1 : trP g p (t + 1) = trP g p t ++ trT (g r) t r.length r.length := by
        show trP g p t ++ (match p[t]? with | some r => trT (g r) t r.length r.length | none => []) = _
        rw [hrt]
      refine ⟨stays_none ▸ trivial, _, _, _, _, rfl, by rw [e1], ?_⟩
      rw [e1, List.length_append]
      have hl1 := trT_len (g := g r) (t := t) (n := r.length) r.length
      have hl2 : r.length * r.length ≤ 100 * 100 := Nat.mul_le_mul hrl hrl
      omega
  · rintro ρ S' ⟨a, b, c1, d, rfl, rfl, hlen⟩
    rw [nx_nx, Nat.zero_add]
    have e1 : (pairN (p.map rowT), locOf (planT p)).1.length = p.length := by simp [pairN]
    rw [show (pairN (p.map rowT)).length = p.length by simp [pairN]]
    exact h a b c1 d
end Px.sh
end
section
set_option linter.all false
set_option maxRecDepth 100000
/-! Sh17: loose_pairs and _law_loose; drawn buffers; sizes. -/
namespace Px.sh
open PySem Px
variable {tab : Str → Option Fn} {W n : Nat} {S : Sto} {P : T → Sto → Prop}
/-- programs that are looked at -/
structure Pn (p : List (List In)) : Prop where
  good : ∀ r ∈ p, ∀ i ∈ r, i.good
  row : ∀ r ∈ p, r.length ≤ 16
  len : p.length ≤ 6
theorem PlanOk.pn {a b c : Nat} {p : List (List In)} (h : PlanOk a b c p) (ha : a ≤ 6) (hb : b ≤ 16) : Pn p := by
  obtain ⟨N, _, _, hN, hi⟩ := h.ex
  exact ⟨fun r hr i hir => ⟨N, hN, hi r hr i hir⟩, fun r hr => Nat.le_trans (h.row r hr) hb, Nat.le_trans h.most ha⟩
theorem tri_bel {k t e l : Nat} : (tri t e l).bel k = true := rfl
theorem belL_app {k : Nat} : ∀ {a b : List T}, T.belL k a = true → T.belL k b = true → T.belL k (a ++ b) = true
  | [], _, _, h => h
  | x :: a, b, h, q => by
    have h := Bool.and_eq_true_iff.mp h
    show (x.bel k && T.belL k (a ++ b)) = true
    rw [h.1, belL_app h.2 q]; rfl
theorem trE_mem {g : Nat → Nat → Bool} {t e k : Nat} {x : T} (h : x ∈ trE g t e k) : ∃ l, l ≤ e + k ∧ x = tri t e l := by
  obtain ⟨j, hj, e1⟩ := List.mem_filterMap.mp h
  have hj := List.mem_range.mp hj
  split at e1
  · cases e1; exact ⟨_, by omega, rfl⟩
  · cases e1
theorem trT_mem {g : Nat → Nat → Bool} {t m : Nat} {x : T} : ∀ {k}, k ≤ m → x ∈ trT g t m k → ∃ e l, e < m ∧ l ≤ m ∧ x = tri t e l
  | 0, _, h => by cases h
  | k + 1, hk, h => by
    rcases List.mem_append.mp h with h | h
    · exact trT_mem (by omega) h
    · obtain ⟨l, hl, e⟩ := trE_mem h
      exact ⟨k, l, by omega, by omega, e⟩
theorem trP_mem {g : List In → Nat → Nat → Bool} {p : List (List In)} {x : T} (hr : ∀ r ∈ p, r.length ≤ 16) : ∀ {k}, x ∈ trP g p k → ∃ t e l, t < k ∧ e < 16 ∧ l ≤ 16 ∧ x = tri t e l
  | 0, h => by cases h
  | k + 1, h => by
    rcases List.mem_append.mp h with h | h
    · obtain ⟨t, e, l, h1, h2⟩ := trP_mem hr h
      exact ⟨t, e, l, by omega, h2⟩
    · cases q : p[k]? with
      | none => rw [q] at h; cases h
      | some r =>
        rw [q] at h
        have := hr r (List.mem_of_getElem? q)
        obtain ⟨e, l, h1, h2, rfl⟩ := trT_mem (Nat.le_refl _) h
        exact ⟨k, e, l, by omega, by omega, by omega, rfl⟩
theorem trP_len {g : List In → Nat → Nat → Bool} {p : List (List In)} (hr : ∀ r ∈ p, r.length ≤ 16) : ∀ k, (trP g p k).length ≤ 256 * k
  | 0 => Nat.le_refl _
  | k + 1 => by
    have ih := trP_len hr (g := g) k
    show (trP g p k ++ _).length ≤ _
    rw [List.length_append]
    cases q : p[k]? with
    | none => simp; omega
    | some r =>
      have hl := hr r (List.mem_of_getElem? q)
      have h1 := trT_len (g := g r) (t := k) (n := r.length) r.length
      have h2 : r.length * r.length ≤ 16 * 16 := Nat.mul_le_mul hl hl
      show (trP g p k).length + (trT (g r) k r.length r.length).length ≤ _
      omega
theorem trips_belL {k : Nat} {g : List In → Nat → Nat → Bool} {p : List (List In)} (h : ∀ r ∈ p, r.length ≤ 16) : T.belL k (trips g p) = true := by
  have key : ∀ xs : List T, (∀ x ∈ xs, ∃ t e l, x = tri t e l) → T.belL k xs = true := fun xs hx => by
    induction xs with
    | nil => rfl
    | cons x xs ih =>
      obtain ⟨t, e, l, rfl⟩ := hx x (by simp)
      show ((tri t e l).bel k && T.belL k xs) = true
      rw [ih fun y hy => hx y (by simp [hy])]; rfl
  refine key _ fun x hx => ?_
  obtain ⟨t, e, l, _, _, _, rfl⟩ := trP_mem h hx
  exact ⟨t, e, l, rfl⟩
theorem t_law_loose [F__law_waits tab] [F__law_is_loose tab] [F__law_loose tab] {p : List (List In)} {ln : Bool} {room : Nat} (hp : Pn p) (h : P (.vl (trips (lsB ln room) p)) S) :
    Run (callN tab W (n + 3) "_law_loose" [planT p, boxT ln room] [] S) P := by
  refine run_call (fn := fn__law_loose) (as := [planT p, boxT ln room]) F__law_loose.h (by rfl) ?_
  show Run (execs _ b__law_loose [some (planT p), some (boxT ln room), none, none, none, none, none] S) (Fin false S P)
  unfold b__law_loose
  refine run_asg ?_
  rw [rv_new, rv_lst, rs_nil]
  refine ⟨by simp [lim], ?_⟩
  rw [rv_newv]
  refine loop_pairs (p := p) (g := lsB ln room) (fun a b c d => [some (planT p), some (boxT ln room), some (.loc S.length), a, b, c, d]) 0 3 4 5 6 2 (by decide) (fun _ _ _ _ => rfl) (fun _ _ _ _ => rfl) (fun _ _ _ _ => rfl) (fun _ _ _ _ => rfl) (fun _ _ _ _ => rfl) (fun _ _ _ _ => rfl) (fun _ _ _ _ _ _ => rfl) (fun _ _ _ _ _ => rfl) (fun _ _ _ _ _ => rfl)
    hp.len (fun r hr => Nat.le_trans (hp.row r hr) (by decide)) (fun t r e l S' hrm he hl => ?_) (fun a b c d => ?_) none none none none
  · rw [rv_call, rs_cons, rv_loc]
    refine ⟨_, rfl, ?_⟩
    rw [rs_cons, rv_loc]
    refine ⟨_, rfl, ?_⟩
    rw [rs_cons, rv_loc]
    refine ⟨_, rfl, ?_⟩
    rw [rs_cons, rv_loc]
    refine ⟨_, rfl, ?_⟩
    rw [rs_nil, rs_nil]
    exact t_is_loose (tab := tab) (n := n) (hp.good r hrm) (Nat.le_trans (hp.row r hrm) (by decide)) he hl ⟨rfl, rfl⟩
  · refine run_ret ?_
    rw [rv_loc]
    refine ⟨_, rfl, ?_⟩
    rw [fin_rt']
    exact gc_newL (trips_belL hp.row) h
theorem t_loose_pairs [F_is_access_to tab] [F_empties tab] [F_is_turnable tab] [F_queued tab] [F_loose_pairs tab] {p : List (List In)} {ln : Bool} {room : Nat} (vs : List T) (kv : List (Str × T)) (hb : bindA fn_loose_pairs.ps vs kv = some [planT p, boxT ln room]) (hp : Pn p) (h : P (.tup (trips (lsB ln room) p)) S) :
    Run (callN tab W (n + 3) "loose_pairs" vs kv S) P := by
  refine run_call (fn := fn_loose_pairs) (as := [planT p, boxT ln room]) F_loose_pairs.h hb ?_
  show Run (execs _ b_loose_pairs [some (planT p), some (boxT ln room), none, none, none, none, none, none, none] S) (Fin false S P)
  unfold b_loose_pairs
  rw [rxs_cons, rx_asg, rv_loc]
  refine ⟨_, rfl, _, rfl, ?_⟩
  rw [nx_nx]
  show Run (execs _ _ [some (planT p), some (boxT ln room), some (.str (kind ln)), some (.int room), none, none, none, none, none] S) _
  refine run_asg ?_
  rw [rv_new, rv_lst, rs_nil]
  refine ⟨by simp [lim], ?_⟩
  rw [rv_newv]
  refine loop_pairs (p := p) (g := lsB ln room) (fun a b c d => [some (planT p), some (boxT ln room), some (.str (kind ln)), some (.int room), some (.loc S.length), a, b, c, d]) 0 5 6 7 8 4 (by decide) (fun _ _ _ _ => rfl) (fun _ _ _ _ => rfl) (fun _ _ _ _ => rfl) (fun _ _ _ _ => rfl) (fun _ _ _ _ => rfl) (fun _ _ _ _ => rfl) (fun _ _ _ _ _ _ => rfl) (fun _ _ _ _ _ => rfl) (fun _ _ _ _ _ => rfl)
    hp.len (fun r hr => Nat.le_trans (hp.row r hr) (by decide)) (fun t r e l S' hrm he hl => ?_) (fun a b c d => ?_) none none none none
  · have hg := hp.good r hrm
    have hl1000 : r.length ≤ 1000 := Nat.le_trans (hp.row r hrm) (by decide)
    have hf := List.getElem?_eq_getElem (show e < r.length by omega)
    have key := lsB_eq (ln := ln) (room := room) hg he hl hf
    rw [key]
    rw [rv_and, rv_call, rs_cons, rv_loc]
    refine ⟨_, rfl, ?_⟩
    rw [rs_cons, rv_loc]
    refine ⟨_, rfl, ?_⟩
    rw [rs_cons, rv_loc]
    refine ⟨_, rfl, ?_⟩
    rw [rs_cons, rv_loc]
    refine ⟨_, rfl, ?_⟩
    rw [rs_nil, rs_nil]
    refine t_turnable (tab := tab) (n := n) hg hl1000 he hl ⟨_, rfl, ?_⟩
    cases c : ltB ln r e l with
    | false => rw [if_neg (by decide), rv_ok]; exact ⟨rfl, rfl⟩
    | true =>
      have hst : r[e].isSt = true := by
        unfold ltB at c
        rw [hf, List.getElem?_eq_getElem hl] at c
        simp only [Bool.and_eq_true] at c
        exact c.1.1.1.1
      rw [if_pos rfl, rv_cmp, rv_call, rs_cons, rv_loc]
      refine ⟨_, rfl, ?_⟩
      rw [rs_cons, rv_loc]
      refine ⟨_, rfl, ?_⟩
      rw [rs_cons, rv_loc]
      refine ⟨_, rfl, ?_⟩
      rw [rs_cons, rv_loc]
      refine ⟨_, rfl, ?_⟩
      rw [rs_nil, rs_nil]
      refine t_queued (tab := tab) (n := n + 1) hg hl1000 hf hst hl ?_
      rw [rv_loc]
      refine ⟨_, rfl, _, le_int, ?_, rfl⟩
      rw [Bool.true_and]
      congr 1
      rw [decide_eq_decide]
      omega
  · refine run_ret ?_
    rw [rv_bty, rs_cons, rv_loc]
    refine ⟨_, rfl, ?_⟩
    rw [rs_nil]
    refine ⟨_, by rw [List.map_cons, List.map_nil, vw0_loc at_new, bty_tupv], ?_⟩
    rw [fin_rt']
    exact gc_new (show T.belL _ _ = true from trips_belL hp.row) h
/-! ### sizes -/
theorem vs_map {α : Type} {k d w : Nat} (f : α → T) : ∀ {xs : List α}, (∀ x ∈ xs, V k d w (f x)) → Vs k d ((w + 1) * xs.length) (xs.map f)
  | [], _ => Vs.nil
  | x :: xs, h => (Vs.cons (h x (by simp)) (vs_map f fun y hy => h y (by simp [hy]))).mono (Nat.le_refl _) (Nat.le_refl _) (by rw [List.length_cons, Nat.mul_succ]; omega)
theorem pool_V : ∀ x ∈ pool, V 0 0 10 (.str x) := fun x hx => v_of (d := 0) (w := 10) (ts := pool.map .str) (by decide +kernel) _ (List.mem_map.mpr ⟨x, hx, rfl⟩)
theorem words_V : ∀ x ∈ words, V 0 0 10 (.str x) := fun x hx => v_of (d := 0) (w := 10) (ts := words.map .str) (by decide +kernel) _ (List.mem_map.mpr ⟨x, hx, rfl⟩)
theorem in_V {i : In} (h : i.good) : V 0 1 40 i.t := by
  obtain ⟨N, hN, h⟩ := h
  cases i with
  | fence => exact v_of (d := 1) (w := 40) (ts := [.tup [.str "fence"]]) (by decide +kernel) _ (by simp [In.t])
  | acc w x => exact (Vs.tup (Vs.cons (words_V w h.1) (Vs.cons (pool_V x (hN x h.2)) (Vs.nil (w := 0))))).mono (by omega) (by omega) (by omega)
theorem row_V {r : List In} (h : ∀ i ∈ r, i.good) (hl : r.length ≤ 16) : V 0 2 700 (rowT r) := (Vs.tup (vs_map In.t fun i hi => in_V (h i hi))).mono (by omega) (by omega) (by omega)
theorem plan_V {p : List (List In)} (h : Pn p) : V 0 3 5000 (planT p) := (Vs.tup (vs_map rowT fun r hr => row_V (h.good r hr) (h.row r hr))).mono (by omega) (by omega) (by have := h.len; omega)
theorem small_V {m : Nat} (h : m ≤ 1000) : V 0 0 20 (.int m) := by
  refine ⟨by simp only [T.neat, decide_eq_true_eq]; omega, by simp [T.dat, PyData.depth], ?_⟩
  simp only [T.dat, PyData.weight]
  split
  · omega
  · have := log2_le (n := (m : Int).natAbs) (k := 10) (by omega) (by decide)
    omega
theorem box_V {ln : Bool} {room : Nat} (h : room ≤ 1000) : V 0 1 100 (boxT ln room) := by
  have a : V 0 0 10 (.str (kind ln)) := by
    cases ln
    · exact v_of (d := 0) (w := 10) (ts := [.str "line"]) (by decide +kernel) _ (by simp [kind])
    · exact v_of (d := 0) (w := 10) (ts := [.str "lanes"]) (by decide +kernel) _ (by simp [kind])
  exact (Vs.tup (Vs.cons a (Vs.cons (small_V h) (Vs.nil (w := 0))))).mono (by omega) (by omega) (by omega)
theorem tri_V {t e l : Nat} (h1 : t ≤ 1000) (h2 : e ≤ 1000) (h3 : l ≤ 1000) : V 0 1 100 (tri t e l) := (Vs.tup (Vs.cons (small_V h1) (Vs.cons (small_V h2) (Vs.cons (small_V h3) (Vs.nil (w := 0)))))).mono (by omega) (by omega) (by omega)
theorem trips_V {g : List In → Nat → Nat → Bool} {p : List (List In)} (h : Pn p) : V 0 2 200000 (.tup (trips g p)) := by
  have h1 : ∀ x ∈ trips g p, V 0 1 100 (id x) := fun x hx => by
    obtain ⟨t, e, l, a, b, c, rfl⟩ := trP_mem h.row hx
    have := h.len
    exact tri_V (by omega) (by omega) (by omega)
  have h2 := trP_len h.row (g := g) p.length
  have h3 := h.len
  have := vs_map id h1
  rw [List.map_id] at this
  exact (Vs.tup this).mono (by omega) (by omega) (by show (100 + 1) * (trP g p p.length).length ≤ _; omega)
/-! ### drawn buffers -/
theorem t_boxS [F__law_take tab] [F__law_of tab] [F__law_box tab] {l B : Nat} (hu : Ur l B S) (hB : B + 2 < 2 ^ 60) (h : ∀ ln room S', 1 ≤ room → room ≤ 16 → Ur l (B + 2) S' → Only l S S' → P (boxT ln room) S') : Run (callN tab W (n + 3) "_law_box" [.loc l] [] S) P := by
  refine run_call (fn := fn__law_box) (as := [.loc l]) F__law_box.h (by rfl) ?_
  show Run (execs _ b__law_box [some (.loc l)] S) (Fin false S P)
  unfold b__law_box
  refine run_ret ?_
  simp [lim]
  refine t_of hu (by omega) (by simp) (by simp) (by rfl) fun v S1 hv hu1 ho1 => ?_
  refine t_of hu1 (by omega) (by simp) (by simp) (by rfl) fun v2 S2 hv2 hu2 ho2 => ?_
  have a1 : ∃ ln, v = .str (kind ln) := by
    simp at hv
    rcases hv with rfl | rfl
    · exact ⟨false, rfl⟩
    · exact ⟨true, rfl⟩
  have a2 : ∃ m : Nat, 1 ≤ m ∧ m ≤ 16 ∧ v2 = .int m := by
    simp at hv2
    rcases hv2 with rfl | rfl | rfl | rfl | rfl
    · exact ⟨1, by decide, by decide, rfl⟩
    · exact ⟨2, by decide, by decide, rfl⟩
    · exact ⟨3, by decide, by decide, rfl⟩
    · exact ⟨4, by decide, by decide, rfl⟩
    · exact ⟨16, by decide, by decide, rfl⟩
  obtain ⟨ln, rfl⟩ := a1
  obtain ⟨m, m1, m2, rfl⟩ := a2
  exact gc_only (box_V (by omega)).bel (ho1.trans ho2) hu2 (h ln m _ m1 m2 hu2 (ho1.trans ho2))
end Px.sh
end
section
set_option linter.all false
set_option maxRecDepth 100000
/-! Sh18: steps: bodies. -/
namespace Px.sh
open PySem L2 Px
def b_is_integer : Sms := (.cons (.ret (.and (.bif "isinstance" (.cons (.loc 0) (.cons (.con (.ty "int")) .nil))) (.not (.bif "isinstance" (.cons (.loc 0) (.cons (.con (.ty "bool")) .nil))))))
  .nil)
def fn_is_integer : Fn := ⟨["value"], 1, false, b_is_integer⟩
class F_is_integer (tab : Str → Option Fn) : Prop where h : tab "is_integer" = some fn_is_integer
def b_is_variable : Sms := (.cons (.ife (.or (.not (.bif "isinstance" (.cons (.loc 0) (.cons (.con (.ty "str")) .nil)))) (.not (.cmp2 .le .le (.con (.int 1)) (.bif "len" (.cons (.loc 0) .nil)) (.con (.int 4))))) (.cons (.ret (.con (.bl false)))
  .nil) .nil)
  (.cons (.ret (.bif "all" (.cons (.comp [1] (.nm 1) (.plain (.loc 0)) .nil (.cmp .in_ (.loc 1) (.con (.str "abcdefghijklmnopqrstuvwxyz")))) .nil)))
  .nil))
def fn_is_variable : Fn := ⟨["value"], 2, false, b_is_variable⟩
class F_is_variable (tab : Str → Option Fn) : Prop where h : tab "is_variable" = some fn_is_variable
def b_is_step : Sms := (.cons (.ife (.or (.not (.bif "isinstance" (.cons (.loc 0) (.cons (.con (.ty "tuple")) .nil)))) (.or (.cmp .eq (.loc 0) (.tup .nil)) (.not (.bif "isinstance" (.cons (.idx (.loc 0) (.con (.int 0))) (.cons (.con (.ty "str")) .nil)))))) (.cons (.ret (.con (.bl false)))
  .nil) .nil)
  (.cons (.star 1 2 (.loc 0))
  (.cons (.ife (.or (.cmp .ne (.bif "len" (.cons (.loc 2) .nil)) (.bif "get" (.cons (.con (.tup [.str "do", .str "flush"])) (.cons (.con (.tup [.int 1, .int 2])) (.cons (.loc 1) (.cons (.con (.int 0)) .nil)))))) (.or (.cmp .eq (.bif "len" (.cons (.loc 2) .nil)) (.con (.int 0))) (.or (.not (.call "is_integer" (.cons (.idx (.loc 2) (.con (.int 0))) .nil) [] .nil)) (.cmp .lt (.idx (.loc 2) (.con (.int 0))) (.con (.int 0)))))) (.cons (.ret (.con (.bl false)))
  .nil) .nil)
  (.cons (.ret (.or (.cmp .eq (.loc 1) (.con (.str "do"))) (.call "is_variable" (.cons (.idx (.loc 2) (.con (.int 1))) .nil) [] .nil)))
  .nil))))
def fn_is_step : Fn := ⟨["value"], 3, false, b_is_step⟩
class F_is_step (tab : Str → Option Fn) : Prop where h : tab "is_step" = some fn_is_step
def b__law_is_int : Sms := (.cons (.ret (.and (.bif "isinstance" (.cons (.loc 0) (.cons (.con (.ty "int")) .nil))) (.not (.bif "isinstance" (.cons (.loc 0) (.cons (.con (.ty "bool")) .nil))))))
  .nil)
def fn__law_is_int : Fn := ⟨["_law_thing"], 1, false, b__law_is_int⟩
class F__law_is_int (tab : Str → Option Fn) : Prop where h : tab "_law_is_int" = some fn__law_is_int
def b__law_is_step : Sms := (.cons (.ife (.or (.not (.bif "isinstance" (.cons (.loc 0) (.cons (.con (.ty "tuple")) .nil)))) (.or (.cmp .lt (.bif "len" (.cons (.loc 0) .nil)) (.con (.int 2))) (.not (.bif "isinstance" (.cons (.idx (.loc 0) (.con (.int 0))) (.cons (.con (.ty "str")) .nil)))))) (.cons (.ret (.con (.bl false)))
  .nil) .nil)
  (.cons (.ife (.or (.not (.call "_law_is_int" (.cons (.idx (.loc 0) (.con (.int 1))) .nil) [] .nil)) (.or (.cmp .lt (.idx (.loc 0) (.con (.int 1))) (.con (.int 0))) (.cmp .nin (.idx (.loc 0) (.con (.int 0))) (.tup (.cons (.con (.str "do")) (.cons (.con (.str "flush")) .nil)))))) (.cons (.ret (.con (.bl false)))
  .nil) .nil)
  (.cons (.ife (.cmp .eq (.idx (.loc 0) (.con (.int 0))) (.con (.str "do"))) (.cons (.ret (.cmp .eq (.bif "len" (.cons (.loc 0) .nil)) (.con (.int 2))))
  .nil) .nil)
  (.cons (.ife (.or (.cmp .ne (.bif "len" (.cons (.loc 0) .nil)) (.con (.int 3))) (.or (.not (.bif "isinstance" (.cons (.idx (.loc 0) (.con (.int 2))) (.cons (.con (.ty "str")) .nil)))) (.not (.cmp2 .le .le (.con (.int 1)) (.bif "len" (.cons (.idx (.loc 0) (.con (.int 2))) .nil)) (.con (.int 4)))))) (.cons (.ret (.con (.bl false)))
  .nil) .nil)
  (.cons (.ret (.bif "all" (.cons (.comp [1] (.nm 1) (.plain (.idx (.loc 0) (.con (.int 2)))) .nil (.cmp .in_ (.loc 1) (.con (.str "abcdefghijklmnopqrstuvwxyz")))) .nil)))
  .nil)))))
def fn__law_is_step : Fn := ⟨["_law_thing"], 2, false, b__law_is_step⟩
class F__law_is_step (tab : Str → Option Fn) : Prop where h : tab "_law_is_step" = some fn__law_is_step
def b__law_odd19 : Sms := (.cons (.asg (.nm 1) (.lst (.cons (.con .non) (.cons (.con (.bl true)) (.cons (.con (.bl false)) (.cons (.con (.int 0)) (.cons (.con (.int 1)) (.cons (.neg (.con (.int 1))) (.cons (.con (.int 16)) (.cons (.bin .pow (.con (.int 10)) (.con (.int 20))) (.cons (.con (.str "")) (.cons (.con (.str "x")) (.cons (.con (.str "do")) (.cons (.con (.str "flush")) (.cons (.con (.str "store")) (.cons (.con (.str "line")) (.cons (.tup .nil) (.cons (.lst .nil) (.cons (.dic [] .nil) .nil)))))))))))))))))))
  (.cons (.asg (.nm 2) (.call "_law_of" (.cons (.loc 0) (.cons (.bin .add (.loc 1) (.lst (.cons (.tup (.cons (.con (.int 0)) .nil)) (.cons (.tup (.cons (.con (.int 0)) (.cons (.con (.int 0)) .nil))) (.cons (.tup (.cons (.con (.str "do")) (.cons (.con (.int 0)) .nil))) (.cons (.tup (.cons (.con (.str "flush")) (.cons (.con (.int 0)) (.cons (.con (.str "x")) .nil)))) (.cons (.tup (.cons (.con (.str "store")) (.cons (.con (.str "x")) .nil))) (.cons (.tup (.cons (.con (.str "fence")) .nil)) .nil)))))))) .nil)) [] .nil))
  (.cons (.for (.nm 3) (.range (.cons (.call "_law_of" (.cons (.loc 0) (.cons (.lst (.cons (.con (.int 0)) (.cons (.con (.int 0)) (.cons (.con (.int 0)) (.cons (.con (.int 1)) (.cons (.con (.int 2)) (.cons (.con (.int 6)) .nil))))))) .nil)) [] .nil) .nil)) (.cons (.asg (.nm 2) (.call "_law_of" (.cons (.loc 0) (.cons (.lst (.cons (.tup (.cons (.loc 2) .nil)) (.cons (.lst (.cons (.loc 2) .nil)) (.cons (.dic ["a"] (.cons (.loc 2) .nil)) .nil)))) .nil)) [] .nil))
  .nil))
  (.cons (.ret (.loc 2))
  .nil))))
def fn__law_odd19 : Fn := ⟨["_law_urn_here"], 4, false, b__law_odd19⟩
class F__law_odd19 (tab : Str → Option Fn) : Prop where h : tab "_law_odd" = some fn__law_odd19
def b__law_bent19 : Sms := (.cons (.ife (.and (.bif "isinstance" (.cons (.loc 1) (.cons (.con (.ty "tuple")) .nil))) (.and (.cmp .ne (.loc 1) (.tup .nil)) (.cmp .gt (.call "_law_take" (.cons (.loc 0) (.cons (.con (.int 4)) .nil)) [] .nil) (.con (.int 0))))) (.cons (.par [2, 3] (.cons (.call "_law_take" (.cons (.loc 0) (.cons (.bif "len" (.cons (.loc 1) .nil)) .nil)) [] .nil) (.cons (.call "_law_take" (.cons (.loc 0) (.cons (.con (.int 8)) .nil)) [] .nil) .nil)))
  (.cons (.ife (.cmp .lt (.loc 3) (.con (.int 5))) (.cons (.ret (.bin .add (.bin .add (.slc (.loc 1) .none (.some (.loc 2))) (.tup (.cons (.call "_law_bent" (.cons (.loc 0) (.cons (.idx (.loc 1) (.loc 2)) .nil)) [] .nil) .nil))) (.slc (.loc 1) (.some (.bin .add (.loc 2) (.con (.int 1)))) .none)))
  .nil) .nil)
  (.cons (.ret (.idx (.lst (.cons (.bin .add (.slc (.loc 1) .none (.some (.loc 2))) (.slc (.loc 1) (.some (.bin .add (.loc 2) (.con (.int 1)))) .none)) (.cons (.bin .add (.slc (.loc 1) .none (.some (.bin .add (.loc 2) (.con (.int 1))))) (.slc (.loc 1) (.some (.loc 2)) .none)) (.cons (.bin .add (.slc (.loc 1) .none (.some (.loc 2))) (.rev (.slc (.loc 1) (.some (.loc 2)) .none))) .nil)))) (.bin .sub (.loc 3) (.con (.int 5)))))
  .nil))) .nil)
  (.cons (.asg (.nm 4) (.lst (.cons (.call "_law_odd" (.cons (.loc 0) .nil) [] .nil) (.cons (.call "_law_odd" (.cons (.loc 0) .nil) [] .nil) .nil))))
  (.cons (.ife (.bif "isinstance" (.cons (.loc 1) (.cons (.con (.ty "tuple")) .nil))) (.cons (.asg (.nm 4) (.bin .add (.loc 4) (.lst (.cons (.bty "list" (.cons (.loc 1) .nil)) (.cons (.bin .add (.loc 1) (.slc (.loc 1) .none (.some (.con (.int 1))))) (.cons (.tup (.cons (.loc 1) .nil)) .nil))))))
  .nil) (.cons (.ife (.bif "isinstance" (.cons (.loc 1) (.cons (.con (.ty "bool")) .nil))) (.cons (.asg (.nm 4) (.bin .add (.loc 4) (.lst (.cons (.bty "int" (.cons (.loc 1) .nil)) (.cons (.not (.loc 1)) .nil)))))
  .nil) (.cons (.ife (.bif "isinstance" (.cons (.loc 1) (.cons (.con (.ty "int")) .nil))) (.cons (.asg (.nm 4) (.bin .add (.loc 4) (.lst (.cons (.bin .add (.loc 1) (.con (.int 1))) (.cons (.bin .sub (.loc 1) (.con (.int 1))) (.cons (.cmp .eq (.loc 1) (.con (.int 1))) (.cons (.bty "str" (.cons (.loc 1) .nil)) (.cons (.neg (.loc 1)) (.cons (.con (.int 0)) .nil)))))))))
  .nil) (.cons (.ife (.bif "isinstance" (.cons (.loc 1) (.cons (.con (.ty "str")) .nil))) (.cons (.asg (.nm 4) (.bin .add (.loc 4) (.lst (.cons (.bin .add (.loc 1) (.con (.str "a"))) (.cons (.slc (.loc 1) (.some (.con (.int 1))) .none) (.cons (.mth (.loc 1) "upper" .nil) (.cons (.con (.str "do")) (.cons (.con (.str "flush")) (.cons (.con (.str "y")) (.cons (.con (.str "store")) .nil))))))))))
  .nil) .nil)
  .nil))
  .nil))
  .nil))
  (.cons (.ret (.call "_law_of" (.cons (.loc 0) (.cons (.loc 4) .nil)) [] .nil))
  .nil))))
def fn__law_bent19 : Fn := ⟨["_law_urn_here", "_law_thing"], 5, false, b__law_bent19⟩
class F__law_bent19 (tab : Str → Option Fn) : Prop where h : tab "_law_bent" = some fn__law_bent19
def b_law19 : Sms := (.cons (.for (.nm 1) (.range (.cons (.bif "max" (.cons (.con (.int 1)) (.cons (.bif "min" (.cons (.con (.int 3)) (.cons (.bif "len" (.cons (.loc 0) .nil)) .nil))) .nil))) .nil)) (.cons (.ife (.not (.call "_law_right" (.cons (.call "_law_urn" (.cons (.loc 0) (.cons (.loc 1) .nil)) [] .nil) .nil) [] .nil)) (.cons (.ret (.con (.bl false)))
  .nil) .nil)
  .nil))
  (.cons (.ret (.con (.bl true)))
  .nil))
def fn_law19 : Fn := ⟨["_law_script"], 2, false, b_law19⟩
class F_law19 (tab : Str → Option Fn) : Prop where h : tab "law" = some fn_law19
end Px.sh
end
section
set_option linter.all false
set_option maxRecDepth 100000
/-! Sh19: odd values, bent values (as law k19 has them). -/
namespace Px.sh
open PySem Px
variable {tab : Str → Option Fn} [F__law_take tab] [F__law_of tab] {W n : Nat} {S : Sto} {P : T → Sto → Prop}
theorem t_odd19 [F__law_odd19 tab] {l B : Nat} (hu : Ur l B S) (hB : B + 20 < 2 ^ 60) (h : ∀ v S', V 0 8 120 v → Ur l (B + 10) S' → Only l S S' → P v S') : Run (callN tab W (n + 3) "_law_odd" [.loc l] [] S) P := by
  refine run_call (fn := fn__law_odd19) (as := [.loc l]) F__law_odd19.h (by rfl) ?_
  show Run (execs _ b__law_odd19 [some (.loc l), none, none, none] S) (Fin false S P)
  unfold b__law_odd19
  refine run_asg ?_
  simp [lim]
  refine ⟨by decide, ?_⟩
  refine t_of hu (by omega) (by simp) (by simp) (by rfl) fun v S1 hv hu1 ho1 => ?_
  have hv := v_of (d := 1) (w := 70) (by decide +kernel) v hv
  generalize T.vl _ = x1
  have hrest : ∀ (ρ : Env) (S' : Sto) (f : T), V 0 8 120 f → Ur l (B + 10) S' → Only l S S' → ρ[2]? = some (some f) → Run (execs ⟨callN tab W (n + 2), W⟩ (Sms.cons (Sm.ret (Ex.loc 2)) Sms.nil) ρ S') (Fin false S P) := by
    intro ρ S' f hf hu' ho' hρ
    simp [hρ]
    exact gc_only hf.bel ho' hu' (h _ _ hf hu' ho')
  rw [← rxs_cons]
  refine run_for ?_
  simp [lim]
  refine t_of hu1 (by omega) (by simp) (by simp) (by rfl) fun r S2 hr hu2 ho2 => ?_
  have hr : ∃ j : Int, r = .int j ∧ 0 ≤ j ∧ j ≤ 6 := by
    simp at hr
    rcases hr with rfl | rfl | rfl | rfl <;> exact ⟨_, rfl, by decide, by decide⟩
  obtain ⟨j, rfl, hj0, hj5⟩ := hr
  simp
  refine ⟨⟨by omega, by omega⟩, ?_⟩
  refine run_forL (fun i ρ S' => ∃ f o, ρ = [some (.loc l), some x1, some f, o] ∧ V 0 (1 + i) (70 + 4 * i) f ∧ Ur l (B + 2 + i) S' ∧ Only l S S') _ 0 _ _ ⟨v, none, rfl, by simpa using hv, hu2, ho1.trans ho2⟩ ?_ ?_
  · rintro i x ρ S' hx ⟨f, o, rfl, hf, hu', ho'⟩
    obtain ⟨rfl, hi⟩ := rng_at hx
    have hi5 : i < 6 := by omega
    rw [Nat.zero_add] at hf hu' ⊢
    simp [lim, ro_some]
    refine t_of hu' (by omega) (by simp) (by simp) ?_ fun f' S3 hf' hu3 ho3 => ?_
    · simp [T.belL, T.bel, hf.bel]
    · have hV : V 0 (1 + (i + 1)) (70 + 4 * (i + 1)) f' := by
        have a1 : V 0 (1 + i) 1 (.str (Str.ofString "a")) := ⟨by decide +kernel, by simp [T.dat, PyData.depth], by decide +kernel⟩
        simp at hf'
        rcases hf' with rfl | rfl | rfl
        · exact (Vs.tup (Vs.cons hf (Vs.nil (w := 0)))).mono (by omega) (by omega) (by omega)
        · exact (Vs.vl (Vs.cons hf (Vs.nil (w := 0)))).mono (by omega) (by omega) (by omega)
        · exact (V.vd1 a1 hf).mono (by omega) (by omega) (by omega)
      exact ⟨hV, hu3.mono (by omega), ho'.trans ho3⟩
  · rintro ρ S' ⟨f, o, rfl, hf, hu', ho'⟩
    rw [rng_len] at hf hu'
    have hj : (j - 0).toNat ≤ 6 := by omega
    exact hrest [some (.loc l), some x1, some f, o] _ f (hf.mono (by omega) (by omega) (by omega)) (hu'.mono (by omega)) ho' rfl
end Px.sh
end
section
set_option linter.all false
set_option maxRecDepth 100000
namespace Px.sh
open PySem Px
variable {tab : Str → Option Fn} [F__law_take tab] [F__law_of tab] [F__law_odd19 tab]
def s_of19 : Sms := .cons (.ret (.call "_law_of" (.cons (.loc 0) (.cons (.loc 4) .nil)) [] .nil)) .nil
def s_rest19 : Sms := (.cons (.asg (.nm 4) (.lst (.cons (.call "_law_odd" (.cons (.loc 0) .nil) [] .nil) (.cons (.call "_law_odd" (.cons (.loc 0) .nil) [] .nil) .nil))))
  (.cons (.ife (.bif "isinstance" (.cons (.loc 1) (.cons (.con (.ty "tuple")) .nil))) (.cons (.asg (.nm 4) (.bin .add (.loc 4) (.lst (.cons (.bty "list" (.cons (.loc 1) .nil)) (.cons (.bin .add (.loc 1) (.slc (.loc 1) .none (.some (.con (.int 1))))) (.cons (.tup (.cons (.loc 1) .nil)) .nil))))))
  .nil) (.cons (.ife (.bif "isinstance" (.cons (.loc 1) (.cons (.con (.ty "bool")) .nil))) (.cons (.asg (.nm 4) (.bin .add (.loc 4) (.lst (.cons (.bty "int" (.cons (.loc 1) .nil)) (.cons (.not (.loc 1)) .nil)))))
  .nil) (.cons (.ife (.bif "isinstance" (.cons (.loc 1) (.cons (.con (.ty "int")) .nil))) (.cons (.asg (.nm 4) (.bin .add (.loc 4) (.lst (.cons (.bin .add (.loc 1) (.con (.int 1))) (.cons (.bin .sub (.loc 1) (.con (.int 1))) (.cons (.cmp .eq (.loc 1) (.con (.int 1))) (.cons (.bty "str" (.cons (.loc 1) .nil)) (.cons (.neg (.loc 1)) (.cons (.con (.int 0)) .nil)))))))))
  .nil) (.cons (.ife (.bif "isinstance" (.cons (.loc 1) (.cons (.con (.ty "str")) .nil))) (.cons (.asg (.nm 4) (.bin .add (.loc 4) (.lst (.cons (.bin .add (.loc 1) (.con (.str "a"))) (.cons (.slc (.loc 1) (.some (.con (.int 1))) .none) (.cons (.mth (.loc 1) "upper" .nil) (.cons (.con (.str "do")) (.cons (.con (.str "flush")) (.cons (.con (.str "y")) (.cons (.con (.str "store")) .nil))))))))))
  .nil) .nil)
  .nil))
  .nil))
  .nil))
  s_of19))
theorem t_rest19 {W n : Nat} {S S1 : Sto} {P : T → Sto → Prop} {l B k d w : Nat} {t : T} (hk : k ≤ 100) (ht : V k d w t) (hw : w ≤ 200000) (hu : Ur l B S1) (ho : Only l S S1) (hB : B + 50 < 2 ^ 60) (h : ∀ v S', V (k + 1) (d + 9) (2 * w + 2500) v → Ur l (B + 21) S' → Only l S S' → P v S') :
    Run (execs ⟨callN tab W (n + 3), W⟩ s_rest19 [some (.loc l), some t, none, none, none] S1) (Fin false S P) := by
  unfold s_rest19
  refine run_asg ?_
  rw [rv_lst, rs_cons, rv_call, rs_cons, rv_loc]
  refine ⟨_, rfl, ?_⟩
  rw [rs_nil, rs_nil]
  refine t_odd19 (n := n) hu (by omega) fun o1 S2 hv1 hu2 ho2 => ?_
  rw [rs_cons, rv_call, rs_cons, rv_loc]
  refine ⟨_, rfl, ?_⟩
  rw [rs_nil, rs_nil]
  refine t_odd19 (n := n) hu2 (by omega) fun o2 S3 hv2 hu3 ho3 => ?_
  rw [rs_nil]
  refine ⟨by simp [lim], ?_⟩
  have ho3' := (ho.trans ho2).trans ho3
  show Run (execs _ _ [some (.loc l), some t, none, none, some (.vl [o1, o2])] S3) _
  have fin : ∀ ys : List T, ys.length < 100 → ys ≠ [] → (∀ y ∈ ys, V (k + 1) (d + 9) (2 * w + 2500) y) → Run (execs ⟨callN tab W (n + 3), W⟩ s_of19 [some (.loc l), some t, none, none, some (.vl ys)] S3) (Fin false S P) := fun ys hl hne hys => by
    unfold s_of19
    refine run_ret ?_
    rw [rv_call, rs_cons, rv_loc]
    refine ⟨_, rfl, ?_⟩
    rw [rs_cons, rv_loc]
    refine ⟨_, rfl, ?_⟩
    rw [rs_nil, rs_nil]
    refine t_of (n := n + 1) hu3 (by omega) hne (by omega) ?_ fun v S4 hv4 hu4 ho4 => ?_
    · have key : ∀ zs : List T, (∀ y ∈ zs, V (k + 1) (d + 9) (2 * w + 2500) y) → T.belL S3.length zs = true := by
        intro zs
        induction zs with
        | nil => intro _; rfl
        | cons z zs ih =>
          intro q
          show (T.bel S3.length z && T.belL S3.length zs) = true
          rw [(q z List.mem_cons_self).bel, ih fun y hy => q y (List.mem_cons_of_mem _ hy)]
          rfl
      exact key ys hys
    · rw [fin_rt']
      exact gc_only (hys v hv4).bel (ho3'.trans ho4) hu4 (h v S4 (hys v hv4) (hu4.mono (by omega)) (ho3'.trans ho4))
  have q1 : V (k + 1) (d + 9) (2 * w + 2500) o1 := hv1.mono (by omega) (by omega) (by omega)
  have q2 : V (k + 1) (d + 9) (2 * w + 2500) o2 := hv2.mono (by omega) (by omega) (by omega)
  have two : ∀ y ∈ [o1, o2], V (k + 1) (d + 9) (2 * w + 2500) y := fun y hy => by
    rcases List.mem_cons.mp hy with rfl | hy
    · exact q1
    · rw [List.mem_singleton.mp hy]; exact q2
  have more : ∀ zs : List T, (∀ y ∈ zs, V (k + 1) (d + 9) (2 * w + 2500) y) → ∀ y ∈ [o1, o2] ++ zs, V (k + 1) (d + 9) (2 * w + 2500) y := fun zs hz y hy => (List.mem_append.mp hy).elim (two y) (hz y)
  have hn := ht.n
  have no : ∀ {c : String} {a b : Sms} {ss : Sms} {Q : Fl × Env → Sto → Prop}, isi t c = some false → Run (execs ⟨callN tab W (n + 3), W⟩ b [some (.loc l), some t, none, none, some (.vl [o1, o2])] S3) (Nx ⟨callN tab W (n + 3), W⟩ ss Q) →
      Run (execs ⟨callN tab W (n + 3), W⟩ (.cons (.ife (.bif "isinstance" (.cons (.loc 1) (.cons (.con (.ty c)) .nil))) a b) ss) [some (.loc l), some t, none, none, some (.vl [o1, o2])] S3) Q := fun e q =>
    run_if (run_v (.bl false) (by simp [ht.vw, e]) ⟨false, rfl, fun z => absurd z (by decide), fun _ => q⟩)
  have yes : ∀ {c : String} {b : Sms} {ss : Sms} {e : Ex} {zs : List T} {Q : Fl × Env → Sto → Prop}, isi t c = some true → zs.length ≤ 7 → (∀ R : T → Sto → Prop, R (.vl zs) S3 → Run (ev ⟨callN tab W (n + 3), W⟩ e [some (.loc l), some t, none, none, some (.vl [o1, o2])] S3) R) → Run (execs ⟨callN tab W (n + 3), W⟩ ss [some (.loc l), some t, none, none, some (.vl ([o1, o2] ++ zs))] S3) Q →
      Run (execs ⟨callN tab W (n + 3), W⟩ (.cons (.ife (.bif "isinstance" (.cons (.loc 1) (.cons (.con (.ty c)) .nil))) (.cons (.asg (.nm 4) (.bin .add (.loc 4) e)) .nil) b) ss) [some (.loc l), some t, none, none, some (.vl [o1, o2])] S3) Q := fun {c b ss e zs Q} ei hl he q => by
    refine run_if (run_v (.bl true) (by simp [ht.vw, ei]) ⟨true, rfl, fun _ => ?_, fun z => absurd z (by decide)⟩)
    refine run_asg ?_
    rw [rv_bin, rv_loc]
    refine ⟨_, rfl, he _ ?_⟩
    refine ⟨.vl ([o1, o2] ++ zs), ?_, ?_⟩
    · show gd (decide ([o1, o2].length + zs.length ≤ lim)) _ = _
      rw [decide_eq_true (by simp [lim]; omega)]; rfl
    rw [rxs_nil, nx_nx]
    exact q
  cases t with
  | tup xs =>
    have hl : xs.length ≤ 200000 := by
      have := len_weight xs
      have := ht.w
      simp only [T.dat, PyData.weight] at this
      omega
    have hc : (cut xs none (some 1)).length ≤ 200000 := by
      unfold cut
      rw [List.length_take, List.length_drop]
      omega
    refine yes (zs := [.vl xs, .tup (xs ++ cut xs none (some 1)), .tup [.tup xs]]) (by simp [isi_gd, tyOf, gd]) (by simp) (fun R hr => ?_) ?_
    · simp [lim, ro_some]
      exact ⟨decide_eq_true (by omega), hr⟩
    · refine fin _ (by simp) (by simp) (more _ fun y hy => ?_)
      have hd : ∃ d', d = d' + 1 := by
        have := ht.d
        simp only [T.dat, PyData.depth] at this
        exact ⟨d - 1, by omega⟩
      obtain ⟨d', rfl⟩ := hd
      have hxs := ht.tup
      simp at hy
      rcases hy with rfl | rfl | rfl
      · exact hxs.vl.mono (by omega) (by omega) (by omega)
      · exact (Vs.tup (hxs.app (hxs.cut none (some 1)))).mono (by omega) (by omega) (by omega)
      · exact (Vs.tup (Vs.cons ht (Vs.nil (w := 0)))).mono (by omega) (by omega) (by omega)
  | int i =>
    simp only [T.neat, decide_eq_true_eq] at hn
    have hs := str_int hn (by omega)
    have hb : bits i < 1900 := by
      have := int_log hn (by omega)
      unfold bits
      omega
    have e1 : ∃ b, cmpT .eq (.int i) (.int 1) = some b := ⟨_, rfl⟩
    obtain ⟨b, e1⟩ := e1
    have hint : ∀ j : Int, j.natAbs ≤ i.natAbs + 1 → V (k + 1) 0 200 (.int j) := fun j hj => by
      have h1 : j.natAbs ≤ 1000000000000000000000000000000 + (k + 1) := by omega
      have h2 := int_log h1 (by omega)
      refine ⟨by simp only [T.neat, decide_eq_true_eq]; exact h1, by simp [T.dat, PyData.depth], ?_⟩
      simp only [T.dat, PyData.weight]
      split <;> omega
    refine no rfl ?_
    refine no rfl ?_
    refine yes (zs := [.int (i + 1), .int (i - 1), .bl b, .str (Str.ofString (toString i)), .int (-i), .int 0]) (by simp [isi_gd, tyOf, gd]) (by simp) (fun R hr => ?_) ?_
    · simp [lim, e1, bty_str hb, -Bool.exists_bool]
      exact hr
    · rw [rxs_nil, nx_nx, rxs_nil, nx_nx]
      refine fin _ (by simp) (by simp) (more _ fun y hy => ?_)
      simp at hy
      rcases hy with rfl | rfl | rfl | rfl | rfl | rfl
      · exact (hint (i + 1) (by omega)).mono (by omega) (by omega) (by omega)
      · exact (hint (i - 1) (by omega)).mono (by omega) (by omega) (by omega)
      · exact v_bl
      · exact hs.mono (by omega) (by omega) (by omega)
      · exact (hint (-i) (by omega)).mono (by omega) (by omega) (by omega)
      · exact (v_of (d := 0) (w := 200) (ts := [.int 0]) (by decide +kernel) _ (by simp)).mono (by omega) (by omega) (by omega)
  | bl c =>
    refine no rfl ?_
    refine yes (zs := [.int (if c then 1 else 0), .bl (!c)]) (by simp [isi_gd, tyOf, gd]) (by simp) (fun R hr => ?_) ?_
    · cases c <;> (simp [lim, -Bool.exists_bool]; exact hr)
    · rw [rxs_nil, nx_nx]
      refine fin _ (by simp) (by simp) (more _ fun y hy => ?_)
      simp at hy
      rcases hy with rfl | rfl
      · cases c
        · exact (v_of (d := 0) (w := 200) (ts := [.int 0]) (by decide +kernel) _ (by simp)).mono (by omega) (by omega) (by omega)
        · exact (v_of (d := 0) (w := 200) (ts := [.int 1]) (by decide +kernel) _ (by simp)).mono (by omega) (by omega) (by omega)
      · exact v_bl
  | str x =>
    obtain ⟨h1, h2⟩ := str_of hn
    have hx : x.length ≤ 160 := by
      have : x.cps.toList.length = x.length := by simp [Str.length]
      omega
    have a1 := str_app (y := Str.ofString "a") hn (by decide) (by decide)
    have a2 := str_cut hn (some 1) none
    have a3 := str_up hn
    have e1 : slcT (.str x) (some 1) none = some (.str (L2.cutS x (some 1) none)) := by
      show gd (decide (x.length ≤ lim)) _ = _
      rw [decide_eq_true (by unfold lim; omega)]; rfl
    have e2 : mthT "upper" (.str x) [] = some (.str (Txt.upper x)) := by
      show gd (decide (x.length ≤ 5592405)) _ = _
      rw [decide_eq_true (by omega)]; rfl
    have e3 : (Str.ofString "a").length = 1 := by decide
    refine no rfl ?_
    refine no rfl ?_
    refine no rfl ?_
    refine yes (zs := [.str (x ++ Str.ofString "a"), .str (L2.cutS x (some 1) none), .str (Txt.upper x), .str "do", .str "flush", .str "y", .str "store"]) (by simp [isi_gd, tyOf, gd]) (by simp) (fun R hr => ?_) ?_
    · simp [lim, ro_some, rv_mth, e1, e2, e3]
      exact ⟨by omega, hr⟩
    · rw [rxs_nil, nx_nx, rxs_nil, nx_nx, rxs_nil, nx_nx]
      refine fin _ (by simp) (by simp) (more _ fun y hy => ?_)
      simp at hy
      rcases hy with rfl | rfl | rfl | rfl | rfl | rfl | rfl
      · exact a1.mono (by omega) (by omega) (by omega)
      · exact a2.mono (by omega) (by omega) (by omega)
      · exact a3.mono (by omega) (by omega) (by omega)
      all_goals exact (v_of (d := 0) (w := 200) (ts := [.str "do", .str "flush", .str "y", .str "store"]) (by decide +kernel) _ (by simp)).mono (by omega) (by omega) (by omega)
  | non =>
    refine no rfl ?_
    refine no rfl ?_
    refine no rfl ?_
    refine no rfl ?_
    rw [rxs_nil, nx_nx, rxs_nil, nx_nx, rxs_nil, nx_nx, rxs_nil, nx_nx]
    exact fin _ (by simp) (by simp) two
  | vl xs =>
    refine no rfl ?_
    refine no rfl ?_
    refine no rfl ?_
    refine no rfl ?_
    rw [rxs_nil, nx_nx, rxs_nil, nx_nx, rxs_nil, nx_nx, rxs_nil, nx_nx]
    exact fin _ (by simp) (by simp) two
  | vd ks vs =>
    refine no rfl ?_
    refine no rfl ?_
    refine no rfl ?_
    refine no rfl ?_
    rw [rxs_nil, nx_nx, rxs_nil, nx_nx, rxs_nil, nx_nx, rxs_nil, nx_nx]
    exact fin _ (by simp) (by simp) two
  | _ => simp [T.neat] at hn
variable [F__law_bent19 tab]
def BentOk19 (tab : Str → Option Fn) (W d : Nat) : Prop := ∀ (n : Nat) (S : Sto) (P : T → Sto → Prop) (l B k w : Nat) (t : T), k ≤ 100 → V k d w t → w ≤ 200000 → Ur l B S → B + 100 * (d + 1) < 2 ^ 60 → (∀ v S', V (k + 1) (d + 9) (G d w) v → Ur l (B + 30 * (d + 1)) S' → Only l S S' → P v S') →
    Run (callN tab W (n + d + 4) "_law_bent" [.loc l, t] [] S) P
theorem t_bent19_step {W d : Nat} (ih : ∀ d', d = d' + 1 → BentOk19 tab W d') : BentOk19 tab W d := by
    intro n S P l B k w t hk ht hw hu hB h
    refine run_call (n := n + d + 3) (fn := fn__law_bent19) (as := [.loc l, t]) F__law_bent19.h (by rfl) ?_
    show Run (execs _ b__law_bent19 [some (.loc l), some t, none, none, none] S) (Fin false S P)
    have hG := G_le d w
    have rest : ∀ S2, Ur l (B + 1) S2 → Only l S S2 → Run (execs ⟨callN tab W (n + d + 3), W⟩ s_rest19 [some (.loc l), some t, none, none, none] S2) (Fin false S P) := fun S2 hu2 ho2 =>
      t_rest19 (n := n + d) hk ht hw hu2 ho2 (by omega) fun v S' hv hu' ho' => h v S' (hv.mono (by omega) (by omega) (by omega)) (hu'.mono (by omega)) ho'
    have hn := ht.n
    unfold b__law_bent19
    cases t with
    | tup xs =>
      cases d with
      | zero => exact absurd ht.d (by simp [T.dat, PyData.depth])
      | succ d =>
        have hxs := ht.tup
        refine run_if_take2 (S := S) (S1 := S) (P := Fin false S P) (n := n + (d + 1) + 2) (l := l) true (!xs.isEmpty) (by simp [isi_gd, tyOf, gd]) (fun _ => by
          have e : cmpT .ne (.tup xs) (.tup []) = some (!xs.isEmpty) := rfl
          simp [lim, e, -Bool.exists_bool]) rfl (by decide) (by decide) hu Only.refl (by omega) rest fun _ hne S2 hu2 ho2 => ?_
        have hne : xs ≠ [] := by rintro rfl; simp at hne
        have hl : 0 < xs.length := List.length_pos_iff.mpr hne
        have hlw : xs.length ≤ 200000 := by
          have := len_weight xs
          have := hxs.w
          omega
        refine run_par2 ?_
        refine ev_take (n := n + d + 3) (m := xs.length) (by simp) rfl hu2 (by omega) (by omega) (by omega) fun a S3 ha0 ha1 hu3 ho3 => ?_
        refine ev_take (n := n + d + 3) (m := 8) (by simp) rfl hu3 (by omega) (by omega) (by omega) fun b S4 hb0 hb1 hu4 ho4 => ?_
        have ho4' := (ho2.trans ho3).trans ho4
        show Run (execs _ _ [some (.loc l), some (.tup xs), some (.int a), some (.int b), none] S4) _
        refine run_if (run_v (.bl (decide (b < 5))) (by simp [-Bool.decide_eq_true, -Bool.exists_bool]) ⟨_, rfl, fun hb => ?_, fun hb => ?_⟩)
        · obtain ⟨u, hu', hu2'⟩ := at_lt ha0 ha1
          have hum := hxs.mem u (List.mem_of_getElem? hu2')
          have c1 : (cut xs none (some a)).length ≤ 200000 := Nat.le_trans (len_weight _) (Nat.le_trans (hxs.cut none (some a)).w hw)
          have c2 : (cut xs (some (a + 1)) none).length ≤ 200000 := Nat.le_trans (len_weight _) (Nat.le_trans (hxs.cut (some (a + 1)) none).w hw)
          have step := ih d rfl n S4 (fun v S' => Run (gc S (.tup (cut xs none (some a) ++ (v :: cut xs (some (a + 1)) none))) S') P) l (B + 1 + 1 + 1) k w u hk hum hw hu4 (by omega) fun v S' hv hu5 ho5 => by
            have hv2 : V (k + 1) (d + 1 + 9) (G (d + 1) w) (.tup (cut xs none (some a) ++ (v :: cut xs (some (a + 1)) none))) := by
              have q1 := (hxs.cut none (some a)).mono (k' := k + 1) (d' := d + 9) (w' := w) (by omega) (by omega) (by omega)
              have q2 := (hxs.cut (some (a + 1)) none).mono (k' := k + 1) (d' := d + 9) (w' := w) (by omega) (by omega) (by omega)
              refine (Vs.tup (q1.app (Vs.cons hv q2))).mono (by omega) (by omega) ?_
              show _ ≤ 2 * w + G d w + 1
              omega
            exact gc_only hv2.bel (ho4'.trans ho5) hu5 (h _ _ hv2 (hu5.mono (by omega)) (ho4'.trans ho5))
          simp [lim, ro_some, hu']
          refine step.mono fun v S' q => ?_
          exact ⟨by omega, by omega, q⟩
        · have hb : 5 ≤ b := by simpa using hb
          obtain ⟨u, hu', hu2'⟩ := at_lt (xs := [T.tup (cut xs none (some a) ++ cut xs (some (a + 1)) none), .tup (cut xs none (some (a + 1)) ++ cut xs (some a) none), .tup (cut xs none (some a) ++ (cut xs (some a) none).reverse)]) (i := b - 5) (by omega) (by simp; omega)
          have c1 : ∀ lo hi, (cut xs lo hi).length ≤ 200000 := fun lo hi => Nat.le_trans (len_weight _) (Nat.le_trans (hxs.cut lo hi).w hw)
          have hv : V (k + 1) (d + 1 + 9) (G (d + 1) w) u := by
            have hm := List.mem_of_getElem? hu2'
            have q : V k (d + 1) (w + w) u := by
              simp at hm
              rcases hm with rfl | rfl | rfl
              · exact Vs.tup ((hxs.cut _ _).app (hxs.cut _ _))
              · exact Vs.tup ((hxs.cut _ _).app (hxs.cut _ _))
              · exact Vs.tup ((hxs.cut _ _).app (hxs.cut _ _).rev)
            exact q.mono (by omega) (by omega) (by omega)
          rw [rxs_nil, nx_nx]
          refine run_ret ?_
          have c2 := c1 none (some a)
          have c3 := c1 (some (a + 1)) none
          have c4 := c1 none (some (a + 1))
          have c5 := c1 (some a) none
          simp [lim, ro_some, hu']
          exact ⟨decide_eq_true (by omega), decide_eq_true (by omega), by omega, gc_only hv.bel ho4' hu4 (h _ _ hv (hu4.mono (by omega)) ho4')⟩
    | non => exact run_if_take2 (S := S) (S1 := S) (P := Fin false S P) (n := n + d + 2) (l := l) false false (by simp [isi_gd, tyOf, gd]) (fun z => by cases z) rfl (by decide) (by decide) hu Only.refl (by omega) rest (fun z => by cases z)
    | int x => exact run_if_take2 (S := S) (S1 := S) (P := Fin false S P) (n := n + d + 2) (l := l) false false (by simp [isi_gd, tyOf, gd]) (fun z => by cases z) rfl (by decide) (by decide) hu Only.refl (by omega) rest (fun z => by cases z)
    | bl x => exact run_if_take2 (S := S) (S1 := S) (P := Fin false S P) (n := n + d + 2) (l := l) false false (by simp [isi_gd, tyOf, gd]) (fun z => by cases z) rfl (by decide) (by decide) hu Only.refl (by omega) rest (fun z => by cases z)
    | str xs => exact run_if_take2 (S := S) (S1 := S) (P := Fin false S P) (n := n + d + 2) (l := l) false false (by simp [isi_gd, tyOf, gd]) (fun z => by cases z) rfl (by decide) (by decide) hu Only.refl (by omega) rest (fun z => by cases z)
    | vl xs => exact run_if_take2 (S := S) (S1 := S) (P := Fin false S P) (n := n + d + 2) (l := l) false false (by simp [isi_gd, tyOf, gd]) (fun z => by cases z) rfl (by decide) (by decide) hu Only.refl (by omega) rest (fun z => by cases z)
    | vd ks vs => exact run_if_take2 (S := S) (S1 := S) (P := Fin false S P) (n := n + d + 2) (l := l) false false (by simp [isi_gd, tyOf, gd]) (fun z => by cases z) rfl (by decide) (by decide) hu Only.refl (by omega) rest (fun z => by cases z)
    | _ => simp [T.neat] at hn
theorem t_bent19 {W : Nat} : ∀ d : Nat, BentOk19 tab W d
  | 0 => t_bent19_step fun d' e => by cases e
  | d + 1 => t_bent19_step fun d' e => by cases e; exact t_bent19 d
end Px.sh
end
section
set_option linter.all false
set_option maxRecDepth 100000
/-! Sh21: tests; steps. -/
namespace Px.sh
open PySem Px
theorem run_star {C : Cfg} {i j : Nat} {e : Ex} {ss : Sms} {ρ : Env} {S : Sto} {P : Fl × Env → Sto → Prop} (h : Run (ev C e ρ S) fun v S => ∃ x xs, v = .tup (x :: xs) ∧ xs.length ≤ 1000000 ∧ Run (execs C ss ((ρ.set i (some x)).set j (some (.vl xs))) S) P) : Run (execs C (.cons (.star i j e) ss) ρ S) P := by
  rw [rxs_cons]
  unfold exec
  rw [rv_bind]
  refine h.mono fun v S1 ⟨x, xs, e1, hl, q⟩ => ?_
  subst e1
  simp only [if_pos hl]
  exact q
theorem idx0t {a : T} {xs : List T} : idxT (.tup (a :: xs)) (.int 0) = some a := at_nat (k := 0) rfl
theorem idx1t {a b : T} {xs : List T} : idxT (.tup (a :: b :: xs)) (.int 1) = some b := at_nat (k := 1) rfl
theorem idx2t {a b c : T} {xs : List T} : idxT (.tup (a :: b :: c :: xs)) (.int 2) = some c := at_nat (k := 2) rfl
theorem idx0v {a : T} {xs : List T} : idxT (.vl (a :: xs)) (.int 0) = some a := at_nat (k := 0) rfl
theorem idx1v {a b : T} {xs : List T} : idxT (.vl (a :: b :: xs)) (.int 1) = some b := at_nat (k := 1) rfl
section
variable {C : Cfg} {ρ : Env} {S : Sto}
/-- a test that changes nothing -/
def Is (C : Cfg) (e : Ex) (ρ : Env) (S : Sto) (b : Bool) : Prop := Run (ev C e ρ S) fun x S' => x = .bl b ∧ S' = S
theorem Is.or {a c : Ex} {x y : Bool} (ha : Is C a ρ S x) (hc : x = false → Is C c ρ S y) : Is C (.or a c) ρ S (x || y) := by
  unfold Is
  rw [rv_or]
  refine ha.mono fun v S' ⟨e1, e2⟩ => ?_
  subst e1 e2
  refine ⟨x, rfl, ?_⟩
  cases x with
  | true => rw [if_pos rfl]; exact ⟨rfl, rfl⟩
  | false => rw [if_neg (by decide)]; exact hc rfl
theorem Is.and {a c : Ex} {x y : Bool} (ha : Is C a ρ S x) (hc : x = true → Is C c ρ S y) : Is C (.and a c) ρ S (x && y) := by
  unfold Is
  rw [rv_and]
  refine ha.mono fun v S' ⟨e1, e2⟩ => ?_
  subst e1 e2
  refine ⟨x, rfl, ?_⟩
  cases x with
  | true => rw [if_pos rfl]; exact hc rfl
  | false => rw [if_neg (by decide)]; exact ⟨rfl, rfl⟩
theorem Is.not {a : Ex} {x : Bool} (ha : Is C a ρ S x) : Is C (.not a) ρ S (!x) := by
  unfold Is
  rw [rv_not]
  refine ha.mono fun v S' ⟨e1, e2⟩ => ?_
  subst e1 e2
  exact ⟨x, rfl, rfl, rfl⟩
theorem Is.run {e : Ex} {b : Bool} {P : T → Sto → Prop} (h : Is C e ρ S b) (q : P (.bl b) S) : Run (ev C e ρ S) P := run_v _ h q
theorem Is.of_eq {e : Ex} {b c : Bool} (h : Is C e ρ S b) (q : b = c) : Is C e ρ S c := q ▸ h
theorem Is.loc {i : Nat} {b : Bool} (h : ρ[i]? = some (some (.bl b))) : Is C (.loc i) ρ S b := by
  unfold Is
  rw [rv_loc]
  exact ⟨_, h, rfl, rfl⟩
/-- if a test -/
theorem run_ifB {c : Ex} {x : Bool} {a b ss : Sms} {P : Fl × Env → Sto → Prop} (h : Is C c ρ S x) (ht : x = true → Run (execs C a ρ S) (Nx C ss P)) (hf : x = false → Run (execs C b ρ S) (Nx C ss P)) : Run (execs C (.cons (.ife c a b) ss) ρ S) P :=
  run_if (run_v _ h ⟨x, rfl, ht, hf⟩)
/-- if a test: return False -/
theorem run_no {c : Ex} {x : Bool} {ss : Sms} {P : Fl × Env → Sto → Prop} (h : Is C c ρ S x) (ht : x = true → P (.rt (.bl false), ρ) S) (hf : x = false → Run (execs C ss ρ S) P) : Run (execs C (.cons (.ife c (.cons (.ret (.con (.bl false))) .nil) .nil) ss) ρ S) P := by
  refine run_ifB h (fun e => ?_) fun e => ?_
  · refine run_ret ?_
    rw [rv_con]
    exact ht e
  · rw [rxs_nil, nx_nx]
    exact hf e
/-- an expression that changes nothing -/
def Vl (C : Cfg) (e : Ex) (ρ : Env) (S : Sto) (v : T) : Prop := Run (ev C e ρ S) fun x S' => x = v ∧ S' = S
theorem Vl.run {e : Ex} {v : T} {P : T → Sto → Prop} (h : Vl C e ρ S v) (q : P v S) : Run (ev C e ρ S) P := run_v _ h q
theorem Vl.loc {i : Nat} {v : T} (h : ρ[i]? = some (some v)) : Vl C (.loc i) ρ S v := by
  unfold Vl
  rw [rv_loc]
  exact ⟨_, h, rfl, rfl⟩
theorem Vl.con {v : T} : Vl C (.con v) ρ S v := by
  unfold Vl
  rw [rv_con]
  exact ⟨rfl, rfl⟩
theorem Vl.idx {a i : Ex} {x y v : T} (ha : Vl C a ρ S x) (hi : Vl C i ρ S y) (h : idxT (vw S x) y = some v) : Vl C (.idx a i) ρ S v := by
  unfold Vl
  rw [rv_idx]
  refine ha.run (hi.run ⟨_, h, rfl, rfl⟩)
theorem Vl.len {a : Ex} {x v : T} (ha : Vl C a ρ S x) (h : bifT "len" [vw S x] = some v) : Vl C (.bif "len" (.cons a .nil)) ρ S v := by
  unfold Vl
  rw [rv_bif, rs_cons]
  refine ha.run ?_
  rw [rs_nil]
  exact ⟨_, h, rfl, rfl⟩
theorem Is.cmp {op : COp} {a c : Ex} {x y : T} {b : Bool} (ha : Vl C a ρ S x) (hc : Vl C c ρ S y) (h : cmpT op (vw S x) (vw S y) = some b) : Is C (.cmp op a c) ρ S b := by
  unfold Is
  rw [rv_cmp]
  exact ha.run (hc.run ⟨_, h, rfl, rfl⟩)
theorem Is.inst {a : Ex} {x : T} {c : String} {b : Bool} (ha : Vl C a ρ S x) (h : isi (vw S x) c = some b) : Is C (.bif "isinstance" (.cons a (.cons (.con (.ty c)) .nil))) ρ S b := by
  unfold Is
  rw [rv_bif, rs_cons]
  refine ha.run ?_
  rw [rs_cons, rv_con, rs_nil]
  refine ⟨.bl b, ?_, rfl, rfl⟩
  show bifT "isinstance" [_, .ty c] = _
  rw [bif_isi, h]; rfl
theorem Is.call1 {f : Str} {a : Ex} {x : T} {b : Bool} (ha : Vl C a ρ S x) (h : ∀ Q : T → Sto → Prop, Q (.bl b) S → Run (C.fc f [x] [] S) Q) : Is C (.call f (.cons a .nil) [] .nil) ρ S b := by
  unfold Is
  rw [rv_call, rs_cons]
  refine ha.run ?_
  rw [rs_nil, rs_nil]
  exact h _ ⟨rfl, rfl⟩
end
theorem ne_int {i j : Int} : cmpT .ne (.int i) (.int j) = some (!(i == j)) := by
  show some (!((PyData.int i).eqv (.int j))) = _
  have e : (PyData.int i).eqv (.int j) = (i == j) := by first | rfl | simp [PyData.eqv] | (unfold PyData.eqv; rfl)
  rw [e]
variable {tab : Str → Option Fn} {W n : Nat} {S : Sto} {P : T → Sto → Prop}
def isInt : T → Bool
  | .int _ => true
  | _ => false
theorem t_is_integer [F_is_integer tab] {k : Nat} {v : T} (hv : v.neat k = true) (h : P (.bl (isInt v)) S) : Run (callN tab W (n + 1) "is_integer" [v] [] S) P := by
  refine run_call (fn := fn_is_integer) (as := [v]) F_is_integer.h (by rfl) ?_
  show Run (execs _ b_is_integer [some v] S) (Fin false S P)
  unfold b_is_integer
  cases v <;> simp [T.neat] at hv <;> simp [isi, tyOf, gd] <;> exact h
theorem t_law_is_int [F__law_is_int tab] {k : Nat} {v : T} (hv : v.neat k = true) (h : P (.bl (isInt v)) S) : Run (callN tab W (n + 1) "_law_is_int" [v] [] S) P := by
  refine run_call (fn := fn__law_is_int) (as := [v]) F__law_is_int.h (by rfl) ?_
  show Run (execs _ b__law_is_int [some v] S) (Fin false S P)
  unfold b__law_is_int
  cases v <;> simp [T.neat] at hv <;> simp [isi, tyOf, gd] <;> exact h
def LET : Str := "abcdefghijklmnopqrstuvwxyz"
def letB (c : Nat) : Bool := !(Builtin.Str.occurrences LET ⟨#[c]⟩ 0 LET.length 1).isEmpty
def varB (x : Str) : Bool := decide (1 ≤ x.length) && (decide (x.length ≤ 4) && x.cps.toList.all letB)
def varT : T → Bool
  | .str x => varB x
  | _ => false
theorem is_letters {C : Cfg} {ρ : Env} {i : Nat} {e : Ex} {x : Str} (he : Vl C e ρ S (.str x)) (hx : x.length ≤ 1000) (hi : i < ρ.length) :
    Is C (.bif "all" (.cons (.comp [i] (.nm i) (.plain e) .nil (.cmp .in_ (.loc i) (.con (.str "abcdefghijklmnopqrstuvwxyz")))) .nil)) ρ S (x.cps.toList.all letB) := by
  unfold Is
  rw [rv_bif, rs_cons, rv_comp, ri_plain]
  refine he.run ?_
  refine ⟨_, rfl, ?_⟩
  refine run_compP (fun y => match y with | .str z => some (.bl (!(Builtin.Str.occurrences LET z 0 LET.length 1).isEmpty)) | _ => none) ?_ (fun y hy => ?_) ?_
  · rw [List.length_map]
    show x.cps.toList.length ≤ lim
    have : x.cps.toList.length = x.length := by simp [Str.length]
    unfold lim; omega
  · obtain ⟨c, _, rfl⟩ := List.mem_map.mp hy
    rw [rv_bind, rv_opt]
    refine ⟨_, rfl, ?_⟩
    rw [rv_bind, rc_nil, if_pos rfl, rv_bind, rv_cmp, rv_loc]
    refine ⟨_, by rw [List.getElem?_set_self (by simp [wipe]; exact hi)], ?_⟩
    rw [rv_con]
    exact ⟨_, rfl, rfl, rfl⟩
  · rw [rs_nil]
    refine ⟨.bl (x.cps.toList.all letB), ?_, rfl, rfl⟩
    show bifT "all" [.vl _] = _
    rw [bif_all]
    have key : ∀ cs : List Nat, blsOf ((cs.map fun c => T.str ⟨#[c]⟩).filterMap fun y => match y with | .str z => some (.bl (!(Builtin.Str.occurrences LET z 0 LET.length 1).isEmpty)) | _ => none) = some (cs.map letB) := by
      intro cs
      induction cs with
      | nil => rfl
      | cons c cs ih =>
        rw [List.map_cons, List.filterMap_cons]
        show (blsOf _).map _ = _
        rw [ih]; rfl
    rw [key]
    show some (T.bl ((x.cps.toList.map letB).all id)) = _
    rw [List.all_map]; rfl
/-- 1 <= len(x) <= 4 -/
theorem is_len4 {C : Cfg} {ρ : Env} {e : Ex} {x : Str} (he : Vl C e ρ S (.str x)) (hx : x.length ≤ 1000) : Is C (.cmp2 .le .le (.con (.int 1)) (.bif "len" (.cons e .nil)) (.con (.int 4))) ρ S (decide (1 ≤ x.length) && decide (x.length ≤ 4)) := by
  unfold Is
  rw [rv_cmp2, rv_con]
  refine (he.len (v := .int x.length) (bif_len_str (by unfold lim; omega))).run ?_
  refine ⟨decide (1 ≤ x.length), ?_, ?_⟩
  · show some (decide ((1 : Int) ≤ (x.length : Int))) = _
    by_cases h : 1 ≤ x.length
    · rw [decide_eq_true h, decide_eq_true (by omega)]
    · rw [decide_eq_false h, decide_eq_false (by omega)]
  · by_cases h : 1 ≤ x.length
    · rw [decide_eq_true h, if_pos rfl, rv_bind, rv_con, rv_bind, rv_opt]
      refine ⟨decide (x.length ≤ 4), ?_, rfl, rfl⟩
      show some (decide ((x.length : Int) ≤ 4)) = _
      by_cases h : x.length ≤ 4
      · rw [decide_eq_true h, decide_eq_true (by omega)]
      · rw [decide_eq_false h, decide_eq_false (by omega)]
    · rw [decide_eq_false h, if_neg (by decide)]
      exact ⟨rfl, rfl⟩
theorem str_short {k : Nat} {x : Str} (h : (T.str x).neat k = true) (hk : k ≤ 900) : x.length ≤ 1000 := by
  obtain ⟨_, h2⟩ := str_of h
  have : x.cps.toList.length = x.length := by simp [Str.length]
  omega
theorem t_is_variable [F_is_variable tab] {k : Nat} {v : T} (hv : v.neat k = true) (hk : k ≤ 900) (h : P (.bl (varT v)) S) : Run (callN tab W (n + 1) "is_variable" [v] [] S) P := by
  refine run_call (fn := fn_is_variable) (as := [v]) F_is_variable.h (by rfl) ?_
  show Run (execs _ b_is_variable [some v, none] S) (Fin false S P)
  unfold b_is_variable
  have bad : isi v "str" = some false → vw S v = v → varT v = false → Run (execs ⟨callN tab W n, W⟩ b_is_variable [some v, none] S) (Fin false S P) := fun e1 e2 e3 => by
    unfold b_is_variable
    refine run_no (x := true) ((Is.or (y := true) (Is.not (Is.inst (Vl.loc rfl) (by rw [e2]; exact e1))) (fun z => absurd z (by decide))).of_eq (by decide)) (fun _ => ?_) (fun z => absurd z (by decide))
    rw [e3] at h
    rw [fin_rt', gc_eq (by rfl)]
    exact h
  cases v with
  | str x =>
    have hx := str_short hv hk
    refine run_no (x := !(decide (1 ≤ x.length) && decide (x.length ≤ 4))) ((Is.or (Is.not (Is.inst (Vl.loc rfl) (b := true) rfl)) fun _ => Is.not (is_len4 (Vl.loc rfl) hx)).of_eq (by simp)) (fun e => ?_) fun e => ?_
    · rw [fin_rt', gc_eq (by rfl)]
      have : varT (.str x) = false := by
        show (decide (1 ≤ x.length) && (decide (x.length ≤ 4) && _)) = false
        cases h1 : decide (1 ≤ x.length) <;> cases h2 : decide (x.length ≤ 4) <;> simp_all
      rw [this] at h
      exact h
    · refine run_ret ((is_letters (Vl.loc rfl) hx (by simp)).run ?_)
      rw [fin_rt', gc_eq (by rfl)]
      have : varT (.str x) = x.cps.toList.all letB := by
        show (decide (1 ≤ x.length) && (decide (x.length ≤ 4) && _)) = _
        cases h1 : decide (1 ≤ x.length) <;> cases h2 : decide (x.length ≤ 4) <;> simp_all
      rw [this] at h
      exact h
  | non => exact bad rfl rfl rfl
  | int i => exact bad rfl rfl rfl
  | bl i => exact bad rfl rfl rfl
  | tup xs => exact bad rfl rfl rfl
  | vl xs => exact bad rfl rfl rfl
  | vd ks vs => exact bad rfl rfl rfl
  | _ => simp [T.neat] at hv
/-- a step, by the document -/
def stepB : T → Bool
  | .tup [.str w, .int i] => decide (w = "do") && decide (0 ≤ i)
  | .tup [.str w, .int i, v] => decide (w = "flush") && (decide (0 ≤ i) && varT v)
  | _ => false
theorem tru_of {b : Bool} : tru (vw S (.bl b)) = some b := rfl
theorem t_is_step [F_is_step tab] [F_is_integer tab] [F_is_variable tab] {k : Nat} {v : T} (vs : List T) (kv : List (Str × T)) (hb : bindA fn_is_step.ps vs kv = some [v]) (hv : v.neat k = true) (hk : k ≤ 900) (hl : ∀ xs, v = .tup xs → xs.length ≤ 1000000) (h : P (.bl (stepB v)) S) :
    Run (callN tab W (n + 2) "is_step" vs kv S) P := by
  refine run_call (fn := fn_is_step) (as := [v]) F_is_step.h hb ?_
  show Run (execs _ b_is_step [some v, none, none] S) (Fin false S P)
  have bad : isi v "tuple" = some false → vw S v = v → stepB v = false → Run (execs ⟨callN tab W (n + 1), W⟩ b_is_step [some v, none, none] S) (Fin false S P) := fun e1 e2 e3 => by
    unfold b_is_step
    refine run_no (x := true) ((Is.or (y := true) (Is.not (Is.inst (Vl.loc rfl) (by rw [e2]; exact e1))) (fun z => absurd z (by decide))).of_eq (by decide)) (fun _ => ?_) (fun z => absurd z (by decide))
    rw [e3] at h
    rw [fin_rt', gc_eq (by rfl)]
    exact h
  cases v with
  | tup xs =>
    have hn := neatL_mem.mp (show T.neatL k xs = true from hv)
    have hl := hl xs rfl
    unfold b_is_step
    cases xs with
    | nil =>
      refine run_no (x := true) ((Is.or (x := false) (y := true) ((Is.not (Is.inst (Vl.loc rfl) (b := true) rfl)).of_eq rfl) fun _ => (Is.or (x := true) (y := true) (Is.cmp (Vl.loc rfl) (y := .tup []) ?_ rfl) (fun z => absurd z (by decide))).of_eq rfl).of_eq rfl) (fun _ => ?_) (fun z => absurd z (by decide))
      · unfold Vl
        rw [rv_tup, rs_nil]
        exact ⟨by simp [lim], rfl, rfl⟩
      · rw [fin_rt', gc_eq (by rfl)]
        exact h
    | cons a xs =>
      have ha := hn a List.mem_cons_self
      have h0 : ∀ b : Bool, isi a "str" = some b → vw S a = a → Is ⟨callN tab W (n + 1), W⟩ (.or (.not (.bif "isinstance" (.cons (.loc 0) (.cons (.con (.ty "tuple")) .nil)))) (.or (.cmp .eq (.loc 0) (.tup .nil)) (.not (.bif "isinstance" (.cons (.idx (.loc 0) (.con (.int 0))) (.cons (.con (.ty "str")) .nil)))))) [some (.tup (a :: xs)), none, none] S (!b) := fun b e1 e2 => by
        refine (Is.or (x := false) (y := !b) ((Is.not (Is.inst (Vl.loc rfl) (b := true) rfl)).of_eq rfl) fun _ => (Is.or (x := false) (y := !b) (Is.cmp (Vl.loc rfl) (y := .tup []) ?_ rfl) (fun _ => Is.not (Is.inst (x := a) (Vl.idx (x := .tup (a :: xs)) (y := .int 0) (Vl.loc rfl) Vl.con idx0t) (by rw [e2]; exact e1)))).of_eq rfl).of_eq rfl
        unfold Vl
        rw [rv_tup, rs_nil]
        exact ⟨by simp [lim], rfl, rfl⟩
      have bad : isi a "str" = some false → vw S a = a → stepB (.tup (a :: xs)) = false → Run (execs ⟨callN tab W (n + 1), W⟩ b_is_step [some (.tup (a :: xs)), none, none] S) (Fin false S P) := fun e1 e2 e3 => by
        unfold b_is_step
        refine run_no (h0 false e1 e2) (fun _ => ?_) (fun z => absurd z (by decide))
        rw [e3] at h
        rw [fin_rt', gc_eq (by rfl)]
        exact h
      have nost : ∀ a : T, (∀ w, a ≠ .str w) → stepB (.tup (a :: xs)) = false := fun a h => by
        unfold stepB
        split
        · rename_i e
          injection e with e; injection e with e e2
          exact absurd e (h _)
        · rename_i e
          injection e with e; injection e with e e2
          exact absurd e (h _)
        · rfl
      cases a with
      | str w =>
        refine run_no (h0 true rfl rfl) (fun z => absurd z (by decide)) (fun _ => ?_)
        refine run_star ((Vl.loc rfl).run ⟨.str w, xs, rfl, by simp at hl; omega, ?_⟩)
        show Run (execs _ _ [some (.tup (.str w :: xs)), some (.str w), some (.vl xs)] S) _
        obtain ⟨g, hg, hg2⟩ : ∃ g : Int, getT w [.str "do", .str "flush"] [.int 1, .int 2] (.int 0) = .int g ∧ ((w = "do" ∧ g = 1) ∨ (w ≠ "do" ∧ w = "flush" ∧ g = 2) ∨ (w ≠ "do" ∧ w ≠ "flush" ∧ g = 0)) := by
          by_cases h1 : w = "do"
          · exact ⟨1, by subst h1; rfl, .inl ⟨h1, rfl⟩⟩
          · by_cases h2 : w = "flush"
            · exact ⟨2, by subst h2; rfl, .inr (.inl ⟨h1, h2, rfl⟩)⟩
            · refine ⟨0, ?_, .inr (.inr ⟨h1, h2, rfl⟩)⟩
              show (if Str.ofString "do" = w then _ else if Str.ofString "flush" = w then _ else _) = _
              rw [if_neg (Ne.symm h1), if_neg (Ne.symm h2)] <;> rfl
        have hget : Vl ⟨callN tab W (n + 1), W⟩ (.bif "get" (.cons (.con (.tup [.str "do", .str "flush"])) (.cons (.con (.tup [.int 1, .int 2])) (.cons (.loc 1) (.cons (.con (.int 0)) .nil))))) [some (.tup (.str w :: xs)), some (.str w), some (.vl xs)] S (.int g) := by
          unfold Vl
          rw [rv_bif, rs_cons, rv_con, rs_cons, rv_con, rs_cons, rv_loc]
          refine ⟨_, rfl, ?_⟩
          rw [rs_cons, rv_con, rs_nil]
          exact ⟨_, by rw [← hg]; rfl, rfl, rfl⟩
        have hlen : Vl ⟨callN tab W (n + 1), W⟩ (.bif "len" (.cons (.loc 2) .nil)) [some (.tup (.str w :: xs)), some (.str w), some (.vl xs)] S (.int xs.length) := Vl.len (Vl.loc rfl) bif_len_vl
        have t1 := Is.cmp (op := .ne) hlen hget ne_int
        have t2 := Is.cmp (op := .eq) hlen (Vl.con (v := .int 0)) eq_int
        cases xs with
        | nil =>
          refine run_no (x := true) ((Is.or t1 fun _ => Is.or (y := true) t2 fun z => absurd z (by decide)).of_eq (by simp)) (fun _ => ?_) (fun z => absurd z (by decide))
          rw [fin_rt', gc_eq (by rfl)]
          exact h
        | cons b xs =>
          have hbn := hn b (List.mem_cons_of_mem _ List.mem_cons_self)
          have hi : Vl ⟨callN tab W (n + 1), W⟩ (.idx (.loc 2) (.con (.int 0))) [some (.tup (.str w :: b :: xs)), some (.str w), some (.vl (b :: xs))] S b := Vl.idx (x := .vl (b :: xs)) (y := .int 0) (Vl.loc rfl) Vl.con idx0v
          have t3 := Is.not (Is.call1 (f := "is_integer") (b := isInt b) hi fun Q q => t_is_integer (n := n) hbn q)
          by_cases hgl : ((b :: xs).length : Int) = g
          · cases b with
            | int i =>
              have z1 : ((((T.int i :: xs).length : Nat) : Int) == g) = true := by rw [beq_iff_eq]; exact hgl
              have z2 : ((((T.int i :: xs).length : Nat) : Int) == 0) = false := by
                rw [beq_eq_false_iff_ne, List.length_cons]
                omega
              have t4 := Is.cmp (op := .lt) hi (Vl.con (v := .int 0)) lt_int
              refine run_no ((Is.or t1 fun _ => Is.or t2 fun _ => Is.or t3 fun _ => t4).of_eq (c := decide (i < 0)) (by rw [z1, z2] <;> rfl)) (fun e => ?_) (fun e => ?_)
              · have e : i < 0 := by simpa using e
                rw [fin_rt', gc_eq (by rfl)]
                have : stepB (.tup (.str w :: .int i :: xs)) = false := by
                  unfold stepB
                  split
                  · rename_i q; cases q; simp; omega
                  · rename_i q; cases q; simp; omega
                  · rfl
                rw [this] at h
                exact h
              · have e : 0 ≤ i := by simpa using e
                have d1 := Is.cmp (op := .eq) (C := ⟨callN tab W (n + 1), W⟩) (ρ := [some (.tup (.str w :: .int i :: xs)), some (.str w), some (.vl (.int i :: xs))]) (S := S) (a := .loc 1) (c := .con (.str "do")) (Vl.loc rfl) Vl.con eq_str
                rcases hg2 with ⟨h1, h2⟩ | ⟨h1, h2, h3⟩ | ⟨h1, h2, h3⟩
                · have : xs = [] := by
                    rw [h2] at hgl
                    simp at hgl
                    exact List.eq_nil_of_length_eq_zero (by omega)
                  subst this
                  refine run_ret ((Is.or (y := true) d1 fun z => absurd z (by simp [h1])).run ?_)
                  rw [fin_rt', gc_eq (by rfl)]
                  have e1 : (decide (w = "do") || true) = stepB (.tup [.str w, .int i]) := by
                    show _ = (decide (w = "do") && decide (0 ≤ i))
                    simp [h1, e]
                  rw [e1]
                  exact h
                · obtain ⟨c, hc⟩ : ∃ c, xs = [c] := by
                    rw [h3] at hgl
                    simp at hgl
                    match xs, hgl with
                    | [c], _ => exact ⟨c, rfl⟩
                    | [], z => simp at z
                    | _ :: _ :: _, z => simp at z; omega
                  subst hc
                  have hcn := hn c (List.mem_cons_of_mem _ (List.mem_cons_of_mem _ List.mem_cons_self))
                  refine run_ret ((Is.or d1 fun _ => Is.call1 (f := "is_variable") (b := varT c) (Vl.idx (x := .vl [.int i, c]) (y := .int 1) (Vl.loc rfl) Vl.con idx1v) fun Q q => t_is_variable (n := n) hcn hk q).run ?_)
                  rw [fin_rt', gc_eq (by rfl)]
                  have e1 : (decide (w = "do") || varT c) = stepB (.tup [.str w, .int i, c]) := by
                    show _ = (decide (w = "flush") && (decide (0 ≤ i) && varT c))
                    rw [decide_eq_false h1, decide_eq_true h2, decide_eq_true e]
                    cases varT c <;> rfl
                  rw [e1]
                  exact h
                · exfalso
                  rw [h3] at hgl
                  simp at hgl
                  omega
            | _ =>
              refine run_no (x := true) ((Is.or t1 fun _ => Is.or t2 fun _ => Is.or (y := true) t3 fun z => absurd z (by simp [isInt])).of_eq (by simp)) (fun _ => ?_) (fun z => absurd z (by decide))
              rw [fin_rt', gc_eq (by rfl)]
              exact h
          · refine run_no (x := true) ((Is.or (y := true) t1 fun z => absurd (beq_iff_eq.mp (by simpa only [Bool.not_eq_false'] using z)) hgl).of_eq (Bool.or_true _)) (fun _ => ?_) (fun z => absurd z (by decide))
            rw [fin_rt', gc_eq (by rfl)]
            have : stepB (.tup (.str w :: b :: xs)) = false := by
              unfold stepB
              split
              · rename_i q; cases q
                have : w ≠ "do" := fun z => by
                  rcases hg2 with ⟨_, h2⟩ | ⟨h1, _⟩ | ⟨h1, _⟩
                  · exact hgl (by rw [h2]; rfl)
                  · exact h1 z
                  · exact h1 z
                simp [this]
              · rename_i q; cases q
                have : w ≠ "flush" := fun z => by
                  rcases hg2 with ⟨h1, _⟩ | ⟨_, _, h3⟩ | ⟨_, h2, _⟩
                  · rw [z] at h1; exact absurd h1 (by decide)
                  · exact hgl (by rw [h3]; rfl)
                  · exact h2 z
                simp [this]
              · rfl
            rw [this] at h
            exact h
      | non => exact bad rfl rfl (nost _ (by simp))
      | int i => exact bad rfl rfl (nost _ (by simp))
      | bl i => exact bad rfl rfl (nost _ (by simp))
      | tup xs => exact bad rfl rfl (nost _ (by simp))
      | vl xs => exact bad rfl rfl (nost _ (by simp))
      | vd ks vs => exact bad rfl rfl (nost _ (by simp))
      | _ => simp [T.neat] at ha
  | non => exact bad rfl rfl rfl
  | int i => exact bad rfl rfl rfl
  | bl i => exact bad rfl rfl rfl
  | str xs => exact bad rfl rfl rfl
  | vl xs => exact bad rfl rfl rfl
  | vd ks vs => exact bad rfl rfl rfl
  | _ => simp [T.neat] at hv
end Px.sh
end
section
set_option linter.all false
set_option maxRecDepth 100000
set_option maxHeartbeats 2000000
/-! Sh22: the law's own look at steps; a law's end of the other form. -/
namespace Px.sh
open PySem Px
variable {tab : Str → Option Fn} {W n : Nat} {S : Sto} {P : T → Sto → Prop}
theorem str_flat {k : Nat} {x : Str} (h : (T.str x).neat k = true) : (T.str x).flat = true := by
  obtain ⟨h1, _⟩ := str_of h
  show x.cps.all (· < 0x110000) = true
  rw [← Array.all_toList, List.all_eq_true]
  intro c hc
  have := h1 c hc
  simp
  omega
theorem stepB_len {xs : List T} (h : stepB (.tup xs) = true) : (∃ i, xs = [.str "do", .int i] ∧ 0 ≤ i) ∨ (∃ i x, xs = [.str "flush", .int i, .str x] ∧ 0 ≤ i ∧ varB x = true) := by
  unfold stepB at h
  split at h
  · rename_i w i q
    cases q
    rw [Bool.and_eq_true, decide_eq_true_eq, decide_eq_true_eq] at h
    exact .inl ⟨i, by rw [h.1], h.2⟩
  · rename_i w i v q
    cases q
    simp only [Bool.and_eq_true, decide_eq_true_eq] at h
    obtain ⟨h1, h2, h3⟩ := h
    cases v with
    | str x => exact .inr ⟨i, x, by rw [h1], h2, h3⟩
    | _ => cases h3
  · cases h
theorem t_law_is_step [F__law_is_step tab] [F__law_is_int tab] {k : Nat} {v : T} (hv : v.neat k = true) (hk : k ≤ 900) (h : P (.bl (stepB v)) S) :
    Run (callN tab W (n + 2) "_law_is_step" [v] [] S) P := by
  refine run_call (fn := fn__law_is_step) (as := [v]) F__law_is_step.h (by rfl) ?_
  show Run (execs _ b__law_is_step [some v, none] S) (Fin false S P)
  have bad : isi v "tuple" = some false → vw S v = v → stepB v = false → Run (execs ⟨callN tab W (n + 1), W⟩ b__law_is_step [some v, none] S) (Fin false S P) := fun e1 e2 e3 => by
    unfold b__law_is_step
    refine run_no (x := true) ((Is.or (y := true) (Is.not (Is.inst (Vl.loc rfl) (by rw [e2]; exact e1))) (fun z => absurd z (by decide))).of_eq (by decide)) (fun _ => ?_) (fun z => absurd z (by decide))
    rw [e3] at h
    rw [fin_rt', gc_eq (by rfl)]
    exact h
  cases v with
  | tup xs =>
    have hn := neatL_mem.mp (show T.neatL k xs = true from hv)
    have hlen : Vl ⟨callN tab W (n + 1), W⟩ (.bif "len" (.cons (.loc 0) .nil)) [some (.tup xs), none] S (.int xs.length) := Vl.len (Vl.loc rfl) bif_len_tup
    have t1 := Is.cmp (op := .lt) hlen (Vl.con (v := .int 2)) lt_int
    have c0 : Is ⟨callN tab W (n + 1), W⟩ (.not (.bif "isinstance" (.cons (.loc 0) (.cons (.con (.ty "tuple")) .nil)))) [some (.tup xs), none] S false := (Is.not (Is.inst (Vl.loc rfl) (b := true) rfl)).of_eq rfl
    have no : stepB (.tup xs) = false → Run (gc S (.bl false) S) P := fun e => by
      rw [e] at h
      rw [gc_eq (by rfl)]
      exact h
    unfold b__law_is_step
    match xs, hn, hlen, t1, c0, no, h with
    | [], hn, hlen, t1, c0, no, h =>
      refine run_no (x := true) ((Is.or c0 fun _ => Is.or (y := true) t1 fun z => absurd z (by decide)).of_eq rfl) (fun _ => by rw [fin_rt']; exact no rfl) (fun z => absurd z (by decide))
    | [a], hn, hlen, t1, c0, no, h =>
      refine run_no (x := true) ((Is.or c0 fun _ => Is.or (y := true) t1 fun z => absurd z (by simp)).of_eq rfl) (fun _ => by
        rw [fin_rt']
        refine no ?_
        cases a <;> rfl) (fun z => absurd z (by decide))
    | a :: b :: xs, hn, hlen, t1, c0, no, h =>
      have ha := hn a List.mem_cons_self
      have hbn := hn b (List.mem_cons_of_mem _ List.mem_cons_self)
      have z1 : decide ((((a :: b :: xs).length : Nat) : Int) < 2) = false := by rw [decide_eq_false_iff_not, List.length_cons, List.length_cons]; omega
      rw [z1] at t1
      have i0 : Vl ⟨callN tab W (n + 1), W⟩ (.idx (.loc 0) (.con (.int 0))) [some (.tup (a :: b :: xs)), none] S a := Vl.idx (x := .tup (a :: b :: xs)) (y := .int 0) (Vl.loc rfl) Vl.con idx0t
      have i1 : Vl ⟨callN tab W (n + 1), W⟩ (.idx (.loc 0) (.con (.int 1))) [some (.tup (a :: b :: xs)), none] S b := Vl.idx (x := .tup (a :: b :: xs)) (y := .int 1) (Vl.loc rfl) Vl.con idx1t
      have nost : (∀ w, a ≠ .str w) → stepB (.tup (a :: b :: xs)) = false := fun q => by
        cases e : stepB (.tup (a :: b :: xs)) with
        | false => rfl
        | true =>
          rcases stepB_len e with ⟨i, e, _⟩ | ⟨i, x, e, _⟩
          · injection e with e _; exact absurd e (q _)
          · injection e with e _; exact absurd e (q _)
      have noint : (∀ w, b ≠ .int w) → stepB (.tup (a :: b :: xs)) = false := fun q => by
        cases e : stepB (.tup (a :: b :: xs)) with
        | false => rfl
        | true =>
          rcases stepB_len e with ⟨i, e, _⟩ | ⟨i, x, e, _⟩
          · injection e with _ e; injection e with e _; exact absurd e (q _)
          · injection e with _ e; injection e with e _; exact absurd e (q _)
      have bads : isi a "str" = some false → vw S a = a → (∀ w, a ≠ .str w) → Run (execs ⟨callN tab W (n + 1), W⟩ b__law_is_step [some (.tup (a :: b :: xs)), none] S) (Fin false S P) := fun e1 e2 e3 => by
        unfold b__law_is_step
        refine run_no (x := true) ((Is.or c0 fun _ => Is.or t1 fun _ => Is.not (Is.inst i0 (b := false) (by rw [e2]; exact e1))).of_eq rfl) (fun _ => by rw [fin_rt']; exact no (nost e3)) (fun z => absurd z (by decide))
      cases a with
      | str w =>
        refine run_no (x := false) ((Is.or c0 fun _ => Is.or t1 fun _ => Is.not (Is.inst i0 (b := true) rfl)).of_eq rfl) (fun z => absurd z (by decide)) (fun _ => ?_)
        have t3 := Is.not (Is.call1 (f := "_law_is_int") (b := isInt b) i1 fun Q q => t_law_is_int (n := n) hbn q)
        have hin : cmpT .nin (.str w) (.tup [.str "do", .str "flush"]) = some (!decide (w ∈ [Str.ofString "do", Str.ofString "flush"])) := by
          have := in_strs (x := w) (ys := [Str.ofString "do", Str.ofString "flush"]) (str_flat ha) (by decide +kernel)
          show (inT (.str w) [.str "do", .str "flush"]).map (!·) = _
          rw [show ([T.str "do", T.str "flush"] : List T) = [Str.ofString "do", Str.ofString "flush"].map .str from rfl, this]
          rfl
        have htup : Vl ⟨callN tab W (n + 1), W⟩ (.tup (.cons (.con (.str "do")) (.cons (.con (.str "flush")) .nil))) [some (.tup (.str w :: b :: xs)), none] S (.tup [.str "do", .str "flush"]) := by
          unfold Vl
          rw [rv_tup, rs_cons, rv_con, rs_cons, rv_con, rs_nil]
          exact ⟨by simp [lim], rfl, rfl⟩
        have t5 := Is.cmp (op := .nin) i0 htup hin
        cases b with
        | int i =>
          have t4 := Is.cmp (op := .lt) i1 (Vl.con (v := .int 0)) lt_int
          refine run_no ((Is.or t3 fun _ => Is.or t4 fun _ => t5).of_eq (c := decide (i < 0) || !decide (w ∈ [Str.ofString "do", Str.ofString "flush"])) rfl) (fun e => ?_) fun e => ?_
          · rw [fin_rt']
            refine no ?_
            cases q : stepB (.tup (.str w :: .int i :: xs)) with
            | false => rfl
            | true =>
              exfalso
              rcases stepB_len q with ⟨j, e2, e3⟩ | ⟨j, x, e2, e3, _⟩
              · injection e2 with e2 e4; injection e4 with e4 _; injection e2 with e2; injection e4 with e4
                subst e2 e4
                rw [decide_eq_false (by omega)] at e
                exact absurd e (by decide)
              · injection e2 with e2 e4; injection e4 with e4 _; injection e2 with e2; injection e4 with e4
                subst e2 e4
                rw [decide_eq_false (by omega)] at e
                exact absurd e (by decide)
          · rw [Bool.or_eq_false_iff, decide_eq_false_iff_not, Bool.not_eq_false', decide_eq_true_eq] at e
            obtain ⟨e0, e1⟩ := e
            have d1 := Is.cmp (op := .eq) i0 (Vl.con (v := .str "do")) eq_str
            refine run_ifB d1 (fun q => ?_) fun q => ?_
            · have q : w = "do" := of_decide_eq_true q
              refine run_ret ((Is.cmp (op := .eq) hlen (Vl.con (v := .int 2)) eq_int).run ?_)
              rw [nx_rt, fin_rt', gc_eq (by rfl)]
              have : stepB (.tup (.str w :: .int i :: xs)) = ((((T.str w :: T.int i :: xs).length : Nat) : Int) == 2) := by
                subst q
                match xs with
                | [] =>
                  show (decide (Str.ofString "do" = Str.ofString "do") && decide (0 ≤ i)) = _
                  rw [decide_eq_true rfl, decide_eq_true (by omega)]; rfl
                | [c] => rfl
                | c :: d :: xs =>
                  have : ((((T.str "do" :: T.int i :: c :: d :: xs).length : Nat) : Int) == 2) = false := by
                    rw [beq_eq_false_iff_ne]
                    simp
                    omega
                  rw [this] <;> rfl
              rw [this] at h
              exact h
            · have q : w ≠ "do" := of_decide_eq_false q
              rw [rxs_nil, nx_nx]
              have q2 : w = "flush" := by
                rcases List.mem_cons.mp e1 with e1 | e1
                · exact absurd e1 q
                · exact List.mem_singleton.mp e1
              have hne := Is.cmp (op := .ne) hlen (Vl.con (v := .int 3)) ne_int
              match xs, hn, hlen, c0, no, h, t1, i0, i1, t3, t4, t5, d1, hne with
              | [], hn, hlen, c0, no, h, t1, i0, i1, t3, t4, t5, d1, hne =>
                refine run_no (x := true) ((Is.or (y := true) hne fun z => absurd z (by simp)).of_eq rfl) (fun _ => ?_) (fun z => absurd z (by decide))
                rw [fin_rt']
                exact no (by show (decide (w = "do") && _) = false; rw [decide_eq_false q]; rfl)
              | c :: d :: xs, hn, hlen, c0, no, h, t1, i0, i1, t3, t4, t5, d1, hne =>
                have z3 : (!((((T.str w :: T.int i :: c :: d :: xs).length : Nat) : Int) == 3)) = true := by
                  rw [Bool.not_eq_true', beq_eq_false_iff_ne]
                  simp
                  omega
                rw [z3] at hne
                refine run_no (x := true) ((Is.or (y := true) hne fun z => absurd z (by decide)).of_eq rfl) (fun _ => ?_) (fun z => absurd z (by decide))
                rw [fin_rt']
                exact no rfl
              | [c], hn, hlen, c0, no, h, t1, i0, i1, t3, t4, t5, d1, hne =>
                have hcn := hn c (List.mem_cons_of_mem _ (List.mem_cons_of_mem _ List.mem_cons_self))
                have i2 : Vl ⟨callN tab W (n + 1), W⟩ (.idx (.loc 0) (.con (.int 2))) [some (.tup [.str w, .int i, c]), none] S c := Vl.idx (x := .tup [.str w, .int i, c]) (y := .int 2) (Vl.loc rfl) Vl.con idx2t
                have es : stepB (.tup [.str w, .int i, c]) = varT c := by
                  show (decide (w = "flush") && (decide (0 ≤ i) && varT c)) = _
                  rw [decide_eq_true q2, decide_eq_true (by omega)]
                  cases varT c <;> rfl
                rw [es] at h
                have badc : isi c "str" = some false → vw S c = c → varT c = false → _ := fun e1 e2 e3 =>
                  run_no (C := ⟨callN tab W (n + 1), W⟩) (ρ := [some (.tup [.str w, .int i, c]), none]) (S := S) (P := Fin false S P) (x := true) (c := .or (.cmp .ne (.bif "len" (.cons (.loc 0) .nil)) (.con (.int 3))) (.or (.not (.bif "isinstance" (.cons (.idx (.loc 0) (.con (.int 2))) (.cons (.con (.ty "str")) .nil)))) (.not (.cmp2 .le .le (.con (.int 1)) (.bif "len" (.cons (.idx (.loc 0) (.con (.int 2))) .nil)) (.con (.int 4)))))) (ss := .cons (.ret (.bif "all" (.cons (.comp [1] (.nm 1) (.plain (.idx (.loc 0) (.con (.int 2)))) .nil (.cmp .in_ (.loc 1) (.con (.str "abcdefghijklmnopqrstuvwxyz")))) .nil))) .nil) ((Is.or hne fun _ => Is.or (y := true) (Is.not (Is.inst i2 (b := false) (by rw [e2]; exact e1))) fun z => absurd z (by decide)).of_eq rfl) (fun _ => by
                    rw [fin_rt', gc_eq (by rfl)]
                    rw [e3] at h
                    exact h) (fun z => absurd z (by decide))
                cases c with
                | str x =>
                  have hx := str_short hcn hk
                  refine run_no ((Is.or hne fun _ => Is.or (Is.not (Is.inst i2 (b := true) rfl)) fun _ => Is.not (is_len4 i2 hx)).of_eq (c := !(decide (1 ≤ x.length) && decide (x.length ≤ 4))) rfl) (fun e => ?_) fun e => ?_
                  · rw [fin_rt', gc_eq (by rfl)]
                    have : varT (.str x) = false := by
                      show (decide (1 ≤ x.length) && (decide (x.length ≤ 4) && _)) = false
                      cases h1 : decide (1 ≤ x.length) <;> cases h2 : decide (x.length ≤ 4) <;> simp_all
                    rw [this] at h
                    exact h
                  · refine run_ret ((is_letters i2 hx (by simp)).run ?_)
                    rw [fin_rt', gc_eq (by rfl)]
                    have : varT (.str x) = x.cps.toList.all letB := by
                      show (decide (1 ≤ x.length) && (decide (x.length ≤ 4) && _)) = _
                      cases h1 : decide (1 ≤ x.length) <;> cases h2 : decide (x.length ≤ 4) <;> simp_all
                    rw [this] at h
                    exact h
                | non => exact badc rfl rfl rfl
                | int i => exact badc rfl rfl rfl
                | bl i => exact badc rfl rfl rfl
                | tup xs => exact badc rfl rfl rfl
                | vl xs => exact badc rfl rfl rfl
                | vd ks vs => exact badc rfl rfl rfl
                | _ => simp [T.neat] at hcn
        | _ =>
          refine run_no (x := true) ((Is.or (y := true) t3 fun z => absurd z (by simp [isInt])).of_eq rfl) (fun _ => by rw [fin_rt']; exact no (noint (by simp))) (fun z => absurd z (by decide))
      | non => exact bads rfl rfl (by simp)
      | int i => exact bads rfl rfl (by simp)
      | bl i => exact bads rfl rfl (by simp)
      | tup xs => exact bads rfl rfl (by simp)
      | vl xs => exact bads rfl rfl (by simp)
      | vd ks vs => exact bads rfl rfl (by simp)
      | _ => simp [T.neat] at ha
  | non => exact bad rfl rfl rfl
  | int i => exact bad rfl rfl rfl
  | bl i => exact bad rfl rfl rfl
  | str xs => exact bad rfl rfl rfl
  | vl xs => exact bad rfl rfl rfl
  | vd ks vs => exact bad rfl rfl rfl
  | _ => simp [T.neat] at hv
/-- for k in range(..): if not right(urn(script, k)): return False -/
theorem t_law19 [F_law19 tab] [F__law_urn tab] {ns : List Int}
    (hR : ∀ (S : Sto) (l : Nat) (P : T → Sto → Prop), Ur l 0 S → (∀ S', P (.bl true) S') → Run (callN tab W (n + 1) "_law_right" [.loc l] [] S) P) :
    ∃ S', runF tab W (n + 2) fn_law19 [.scr (ns.map .int)] [] = .ok (.bl true) S' := by
  have key : Run (callN tab W (n + 2) "law" [.scr (ns.map .int)] [] []) fun v S' => v = .bl true := by
    refine run_call (fn := fn_law19) (as := [.scr (ns.map .int)]) F_law19.h (by rfl) ?_
    show Run (execs _ b_law19 [some (.scr (ns.map .int)), none] []) (Fin false [] _)
    unfold b_law19
    refine run_for ?_
    have hj : ∃ j : Int, 0 ≤ j ∧ j ≤ 3 ∧ ∀ P : List T → Sto → Prop, P [.int j] [] → Run (evs ⟨callN tab W (n + 1), W⟩ (.cons (.bif "max" (.cons (.con (.int 1)) (.cons (.bif "min" (.cons (.con (.int 3)) (.cons (.bif "len" (.cons (.loc 0) .nil)) .nil))) .nil))) .nil) [some (.scr (ns.map .int)), none] []) P := by
      by_cases c : ns.length < 3
      · by_cases c2 : 1 < ns.length
        · exact ⟨ns.length, by omega, by omega, fun P h => by simp [show ¬ (3 : Int) ≤ ns.length by omega, show (ns.length : Int) < 3 by omega, show 1 < (ns.length : Int) by omega]; exact h⟩
        · exact ⟨1, by omega, by omega, fun P h => by simp [show (ns.length : Int) < 3 by omega, show ¬ 1 < (ns.length : Int) by omega, -gt_iff_lt, show ¬ (ns.length : Int) > 1 by omega]; exact h⟩
      · exact ⟨3, by omega, by omega, fun P h => by simp [show ¬ (ns.length : Int) < 3 by omega]; exact h⟩
    obtain ⟨j, j0, j3, hj⟩ := hj
    rw [ri_range]
    refine hj _ ?_
    rw [rangeT_1]
    refine ⟨_, by rw [decide_eq_true (by omega), decide_eq_true (by omega)]; rfl, ?_⟩
    refine run_forL (fun i ρ S => ∃ o, ρ = [some (.scr (ns.map .int)), o]) _ 0 _ _ ⟨none, rfl⟩ ?_ ?_
    · rintro i x ρ S hx ⟨o, rfl⟩
      obtain ⟨rfl, hi⟩ := rng_at hx
      rw [rv_bind, rv_opt]
      refine ⟨_, rfl, ?_⟩
      refine run_if ?_
      rw [rv_not, rv_call, rs_cons, rv_call, rs_cons, rv_loc]
      refine ⟨_, rfl, ?_⟩
      rw [rs_cons, rv_loc]
      refine ⟨_, rfl, ?_⟩
      rw [rs_nil, rs_nil]
      refine t_urn (by omega) (by omega) fun a b ha hb hb2 => ?_
      rw [rs_nil, rs_nil]
      refine hR _ _ _ ⟨a, b, 0, by rw [List.getElem?_append_right (Nat.le_refl _), Nat.sub_self]; rfl, ha, hb, hb2, by omega, by omega⟩ fun S' => ?_
      refine ⟨true, rfl, false, rfl, fun z => absurd z (by decide), fun _ => ?_⟩
      rw [rxs_nil, nx_nx, rxs_nil, turn_nx]
      exact ⟨trivial, _, rfl⟩
    · rintro ρ S ⟨o, rfl⟩
      rw [nx_nx]
      refine run_ret ?_
      rw [rv_con, fin_rt']
      exact gc_run (Nat.zero_le _) (fun i hi => absurd hi (Nat.not_lt_zero _)) rfl rfl
  rw [callN_eq F_law19.h] at key
  obtain ⟨v, S', e, rfl⟩ := key.get
  exact ⟨S', e⟩
end Px.sh
end
section
set_option linter.all false
set_option maxRecDepth 100000
/-! Sh23: programs: bodies. -/
namespace Px.sh
open PySem L2 Px
def b_is_instruction : Sms := (.cons (.ife (.or (.not (.bif "isinstance" (.cons (.loc 0) (.cons (.con (.ty "tuple")) .nil)))) (.not (.bif "all" (.cons (.comp [1] (.nm 1) (.plain (.loc 0)) .nil (.bif "isinstance" (.cons (.loc 1) (.cons (.con (.ty "str")) .nil)))) .nil)))) (.cons (.ret (.con (.bl false)))
  .nil) .nil)
  (.cons (.ife (.cmp .eq (.bif "len" (.cons (.loc 0) .nil)) (.con (.int 2))) (.cons (.ret (.and (.cmp .in_ (.idx (.loc 0) (.con (.int 0))) (.tup (.cons (.con (.str "load")) (.cons (.con (.str "store")) (.cons (.con (.str "swap")) .nil))))) (.call "is_variable" (.cons (.idx (.loc 0) (.con (.int 1))) .nil) [] .nil)))
  .nil) .nil)
  (.cons (.ret (.cmp .eq (.loc 0) (.tup (.cons (.con (.str "fence")) .nil))))
  .nil)))
def fn_is_instruction : Fn := ⟨["value"], 2, false, b_is_instruction⟩
class F_is_instruction (tab : Str → Option Fn) : Prop where h : tab "is_instruction" = some fn_is_instruction
def b_is_thread : Sms := (.cons (.ife (.or (.not (.bif "isinstance" (.cons (.loc 0) (.cons (.con (.ty "tuple")) .nil)))) (.cmp .gt (.bif "len" (.cons (.loc 0) .nil)) (.con (.int 16)))) (.cons (.ret (.con (.bl false)))
  .nil) .nil)
  (.cons (.ret (.bif "all" (.cons (.comp [1] (.nm 1) (.plain (.loc 0)) .nil (.call "is_instruction" (.cons (.loc 1) .nil) [] .nil)) .nil)))
  .nil))
def fn_is_thread : Fn := ⟨["value"], 2, false, b_is_thread⟩
class F_is_thread (tab : Str → Option Fn) : Prop where h : tab "is_thread" = some fn_is_thread
def b_is_program : Sms := (.cons (.ife (.or (.not (.bif "isinstance" (.cons (.loc 0) (.cons (.con (.ty "tuple")) .nil)))) (.not (.cmp2 .le .le (.con (.int 1)) (.bif "len" (.cons (.loc 0) .nil)) (.con (.int 6))))) (.cons (.ret (.con (.bl false)))
  .nil) .nil)
  (.cons (.ret (.and (.bif "all" (.cons (.comp [1] (.nm 1) (.plain (.loc 0)) .nil (.call "is_thread" (.cons (.loc 1) .nil) [] .nil)) .nil)) (.cmp .le (.bif "len" (.cons (.call "variables_of" (.cons (.loc 0) .nil) [] .nil) .nil)) (.con (.int 6)))))
  .nil))
def fn_is_program : Fn := ⟨["value"], 2, false, b_is_program⟩
class F_is_program (tab : Str → Option Fn) : Prop where h : tab "is_program" = some fn_is_program
def b_variables_of : Sms := (.cons (.ret (.bty "tuple" (.cons (.ssc [1, 2] (.nm 1) (.plain (.loc 0)) .nil [2] (.nm 2) (.plain (.loc 1)) (.cons (.call "is_access_to" (.cons (.loc 2) .nil) [] .nil) .nil) (.idx (.loc 2) (.con (.int 1)))) .nil)))
  .nil)
def fn_variables_of : Fn := ⟨["program"], 3, false, b_variables_of⟩
class F_variables_of (tab : Str → Option Fn) : Prop where h : tab "variables_of" = some fn_variables_of
end Px.sh
end
section
set_option linter.all false
set_option maxRecDepth 100000
set_option maxHeartbeats 2000000
/-! Sh24: programs: what is_instruction, is_thread, variables_of, is_program tell. -/
namespace Px.sh
open PySem Px
section
variable {C : Cfg} {ρ : Env} {S : Sto}
/-- all([elt for x in e]), e a tuple -/
theorem is_allc {i : Nat} {e elt : Ex} {xs : List T} {f : T → Bool} (he : Vl C e ρ S (.tup xs)) (hl : xs.length ≤ lim) (h : ∀ x ∈ xs, Is C elt ((wipe ρ [i]).set i (some x)) S (f x)) :
    Is C (.bif "all" (.cons (.comp [i] (.nm i) (.plain e) .nil elt) .nil)) ρ S (xs.all f) := by
  unfold Is
  rw [rv_bif, rs_cons, rv_comp, ri_plain]
  refine he.run ⟨_, rfl, ?_⟩
  refine run_compP (fun y => some (.bl (f y))) hl (fun y hy => ?_) ?_
  · rw [rv_bind, rv_opt]
    refine ⟨_, rfl, ?_⟩
    rw [rv_bind, rc_nil, if_pos rfl, rv_bind]
    exact (h y hy).run ⟨rfl, rfl⟩
  · rw [rs_nil, fm_some]
    refine ⟨.bl (xs.all f), ?_, rfl, rfl⟩
    show bifT "all" [.vl _] = _
    rw [bif_all, blsOf_map]
    show some (T.bl ((xs.map f).all id)) = _
    rw [List.all_map]; rfl
theorem run_compSP {l : Option Nat} {body : T → Sto → R (Option Str)} {P : List Str → Sto → Prop} (g : T → Option Str) : ∀ {xs : List T} {acc : List Str}, acc.length + xs.length ≤ 4000 → (∀ x ∈ xs, Run (body x S) fun r S1 => r = g x ∧ S1 = S) → P (acc ++ xs.filterMap g) S → Run (compS l S body xs acc S) P
  | [], acc, _, _, h => by
    unfold compS
    simpa using h
  | x :: xs, acc, hl, hb, h => by
    unfold compS
    rw [rv_bind]
    refine (hb x List.mem_cons_self).mono fun r S1 ⟨e1, e2⟩ => ?_
    rw [e1, e2]
    rw [List.length_cons] at hl
    rw [if_pos ⟨stays_self, by omega⟩]
    cases e : g x with
    | none =>
      show Run (compS l S body xs acc S) P
      exact run_compSP g (by omega) (fun y hy => hb y (List.mem_cons_of_mem _ hy)) (by rw [List.filterMap_cons, e] at h; exact h)
    | some v =>
      show Run (compS l S body xs (acc ++ [v]) S) P
      exact run_compSP g (by rw [List.length_append]; simp; omega) (fun y hy => hb y (List.mem_cons_of_mem _ hy)) (by rw [List.filterMap_cons, e] at h; rw [List.append_assoc]; exact h)
theorem run_compS2P {l : Option Nat} {body : T → List Str → Sto → R (List Str)} {P : List Str → Sto → Prop} (g : T → List Str) : ∀ {xs : List T} {acc : List Str}, (acc ++ xs.flatMap g).length ≤ 3000 → (∀ x ∈ xs, ∀ acc : List Str, (acc ++ g x).length ≤ 3000 → Run (body x acc S) fun r S1 => r = acc ++ g x ∧ S1 = S) → P (acc ++ xs.flatMap g) S → Run (compS2 l S body xs acc S) P
  | [], acc, _, _, h => by
    unfold compS2
    simpa using h
  | x :: xs, acc, hl, hb, h => by
    unfold compS2
    rw [rv_bind]
    rw [List.flatMap_cons, ← List.append_assoc] at hl h
    refine (hb x List.mem_cons_self acc (by rw [List.length_append] at hl; omega)).mono fun r S1 ⟨e1, e2⟩ => ?_
    rw [e1, e2]
    rw [if_pos stays_self]
    exact run_compS2P g hl (fun y hy => hb y (List.mem_cons_of_mem _ hy)) h
end
def wordB (w : Str) : Bool := decide (w ∈ [Str.ofString "load", Str.ofString "store", Str.ofString "swap"])
def isStr : T → Bool
  | .str _ => true
  | _ => false
def insB : T → Bool
  | .tup [.str w, .str x] => wordB w && varB x
  | .tup [.str w] => decide (w = "fence")
  | _ => false
def rowB : T → Bool
  | .tup xs => decide (xs.length ≤ 16) && xs.all insB
  | _ => false
/-- an instruction, by the document -/
def In.fit : In → Prop
  | .fence => True
  | .acc w x => wordB w = true ∧ varB x = true
def In.nm : In → Option Str
  | .fence => none
  | .acc _ x => some x
def names (p : List (List In)) : List Str := p.flatMap fun r => r.filterMap In.nm
theorem insB_of {v : T} (h : insB v = true) : ∃ i : In, v = i.t ∧ i.fit := by
  unfold insB at h
  split at h
  · rename_i w x
    rw [Bool.and_eq_true] at h
    exact ⟨.acc w x, rfl, h⟩
  · rename_i w
    have h := of_decide_eq_true h
    subst h
    exact ⟨.fence, rfl, trivial⟩
  · cases h
theorem insB_in {i : In} (h : i.fit) : insB i.t = true := by
  cases i with
  | fence => rfl
  | acc w x => show (wordB w && varB x) = true; rw [h.1, h.2]; rfl
theorem all_in {xs : List T} (h : xs.all insB = true) : ∃ r : List In, xs = r.map In.t ∧ ∀ i ∈ r, i.fit := by
  induction xs with
  | nil => exact ⟨[], rfl, by simp⟩
  | cons x xs ih =>
    rw [List.all_cons, Bool.and_eq_true] at h
    obtain ⟨i, rfl, hi⟩ := insB_of h.1
    obtain ⟨r, rfl, hr⟩ := ih h.2
    exact ⟨i :: r, rfl, fun j hj => (List.mem_cons.mp hj).elim (fun e => e ▸ hi) (hr j)⟩
theorem rowB_of {v : T} (h : rowB v = true) : ∃ r : List In, v = rowT r ∧ r.length ≤ 16 ∧ ∀ i ∈ r, i.fit := by
  cases v with
  | tup xs =>
    rw [rowB, Bool.and_eq_true, decide_eq_true_eq] at h
    obtain ⟨r, rfl, hr⟩ := all_in h.2
    exact ⟨r, rfl, by simpa using h.1, hr⟩
  | _ => cases h
theorem all_row {xs : List T} (h : xs.all rowB = true) : ∃ p : List (List In), xs = p.map rowT ∧ ∀ r ∈ p, r.length ≤ 16 ∧ ∀ i ∈ r, i.fit := by
  induction xs with
  | nil => exact ⟨[], rfl, by simp⟩
  | cons x xs ih =>
    rw [List.all_cons, Bool.and_eq_true] at h
    obtain ⟨i, rfl, hi⟩ := rowB_of h.1
    obtain ⟨r, rfl, hr⟩ := ih h.2
    exact ⟨i :: r, rfl, fun j hj => (List.mem_cons.mp hj).elim (fun e => e ▸ hi) (hr j)⟩
/-- the variables named in rows -/
def nmsT (xs : List T) : List Str := xs.flatMap fun r => match r with
  | .tup ys => ys.filterMap fun y => match y with
    | .tup [_, .str x] => some x
    | _ => none
  | _ => []
theorem nmsT_plan (p : List (List In)) : nmsT (p.map rowT) = names p := by
  induction p with
  | nil => rfl
  | cons r p ih =>
    show (List.filterMap _ (r.map In.t)) ++ nmsT (p.map rowT) = r.filterMap In.nm ++ names p
    rw [ih]
    congr 1
    induction r with
    | nil => rfl
    | cons i r ih2 =>
      cases i with
      | fence => exact ih2
      | acc w x => exact congrArg (x :: ·) ih2
def planB : T → Bool
  | .tup xs => (decide (1 ≤ xs.length) && decide (xs.length ≤ 6)) && (xs.all rowB && decide ((addsK [] (nmsT xs)).length ≤ 6))
  | _ => false
variable {tab : Str → Option Fn} {W n : Nat} {S : Sto} {P : T → Sto → Prop}
theorem isi_str {k : Nat} {v : T} (h : v.neat k = true) : isi v "str" = some (isStr v) := by
  cases v <;> first | rfl | (simp [T.neat] at h)
theorem isi_tup {k : Nat} {v : T} (h : v.neat k = true) : (∃ xs, v = .tup xs) ∨ isi v "tuple" = some false := by
  cases v <;> first | exact .inr rfl | exact .inl ⟨_, rfl⟩ | (simp [T.neat] at h)
theorem neat_vw {k : Nat} {v : T} (h : v.neat k = true) : vw S v = v := vw0_pure (neat_pure h)
theorem strs_all {xs : List T} (h : xs.all isStr = true) : ∃ zs : List Str, xs = zs.map .str := by
  induction xs with
  | nil => exact ⟨[], rfl⟩
  | cons x xs ih =>
    rw [List.all_cons, Bool.and_eq_true] at h
    obtain ⟨zs, rfl⟩ := ih h.2
    cases x with
    | str z => exact ⟨z :: zs, rfl⟩
    | _ => cases h.1
def fenB : List Str → Bool
  | [w] => decide (w = "fence")
  | _ => false
theorem fence_eq {zs : List Str} (h : ∀ z ∈ zs, (T.str z).flat = true) : cmpT .eq (.tup (zs.map .str)) (.tup [.str "fence"]) = some (fenB zs) := by
  have hd : (T.tup [T.str "fence"]).dat.depth = 1 := by simp [T.dat, T.datL, PyData.depth, PyData.depthAll]
  have hf : (T.tup (zs.map .str)).flat = true := flatL_map T.str h
  show gd ((T.tup (zs.map .str)).flat && (T.tup [T.str "fence"]).flat && decide (min (T.tup (zs.map .str)).dat.depth (T.tup [T.str "fence"]).dat.depth ≤ 60)) _ = _
  rw [hf, show (T.tup [T.str "fence"]).flat = true by decide +kernel, hd, decide_eq_true (by omega)]
  show some _ = some _
  congr 1
  match zs with
  | [] => first | rfl | simp [T.dat, T.datL, PyData.eqv]
  | [w] =>
    have := eqv_str (x := w) (y := "fence")
    simp [T.dat, T.datL, PyData.eqv, PyData.eqvAll] at this ⊢
    exact this
  | a :: b :: r => first | rfl | simp [T.dat, T.datL, PyData.eqv, PyData.eqvAll, fenB]
end Px.sh
end
section
set_option linter.all false
set_option maxRecDepth 100000
set_option maxHeartbeats 2000000
/-! Sh25: the walks. -/
namespace Px.sh
open PySem Px
variable {tab : Str → Option Fn} {W n : Nat} {S : Sto} {P : T → Sto → Prop}
theorem V.mem {k d w : Nat} {xs : List T} (h : V k d w (.tup xs)) : ∀ x ∈ xs, ∃ d', d = d' + 1 ∧ V k d' w x := fun x hx => by
  cases d with
  | zero => exact absurd h.d (by simp [T.dat, PyData.depth])
  | succ d => exact ⟨d, rfl, h.tup.mem x hx⟩
theorem V.len {k d w : Nat} {xs : List T} (h : V k d w (.tup xs)) : xs.length ≤ w := by
  have := h.w
  simp only [T.dat, PyData.weight] at this
  exact Nat.le_trans (len_weight xs) this
theorem fin_b {b : Bool} {ρ : Env} (h : P (.bl b) S) : Fin false S P (.rt (.bl b), ρ) S := by
  rw [fin_rt', gc_eq (by rfl)]
  exact h
theorem strs_flat {k : Nat} {zs : List Str} (h : T.neatL k (zs.map .str) = true) : ∀ z ∈ zs, (T.str z).flat = true := fun z hz =>
  str_flat (neatL_mem.mp h (.str z) (List.mem_map.mpr ⟨z, hz, rfl⟩))
theorem in3 {k : Nat} {w : Str} (h : (T.str w).neat k = true) : cmpT .in_ (.str w) (.tup [.str "load", .str "store", .str "swap"]) = some (wordB w) := by
  have := in_strs (x := w) (ys := [Str.ofString "load", Str.ofString "store", Str.ofString "swap"]) (str_flat h) (by decide +kernel)
  exact this
theorem vl_tup1 {C : Cfg} {ρ : Env} {a : T} : Vl C (.tup (.cons (.con a) .nil)) ρ S (.tup [a]) := by
  unfold Vl
  rw [rv_tup, rs_cons, rv_con, rs_nil]
  exact ⟨by simp [lim], rfl, rfl⟩
theorem vl_tup3 {C : Cfg} {ρ : Env} {a b c : T} : Vl C (.tup (.cons (.con a) (.cons (.con b) (.cons (.con c) .nil)))) ρ S (.tup [a, b, c]) := by
  unfold Vl
  rw [rv_tup, rs_cons, rv_con, rs_cons, rv_con, rs_cons, rv_con, rs_nil]
  exact ⟨by simp [lim], rfl, rfl⟩
theorem is_strs {C : Cfg} {ρ : Env} {k i : Nat} {e : Ex} {xs : List T} (he : Vl C e ρ S (.tup xs)) (hn : T.neatL k xs = true) (hl : xs.length ≤ lim) (hi : i < ρ.length) : Is C (.bif "all" (.cons (.comp [i] (.nm i) (.plain e) .nil (.bif "isinstance" (.cons (.loc i) (.cons (.con (.ty "str")) .nil)))) .nil)) ρ S (xs.all isStr) :=
  is_allc he hl fun x hx => by
    have hx := neatL_mem.mp hn x hx
    exact Is.inst (Vl.loc (by rw [List.getElem?_set_self (by simp [wipe]; exact hi)])) (by rw [neat_vw hx]; exact isi_str hx)
theorem t_is_instruction [F_is_instruction tab] [F_is_variable tab] {k : Nat} {v : T} (hv : v.neat k = true) (hk : k ≤ 900) (hl : ∀ xs, v = .tup xs → xs.length ≤ lim) (h : P (.bl (insB v)) S) : Run (callN tab W (n + 2) "is_instruction" [v] [] S) P := by
  refine run_call (fn := fn_is_instruction) (as := [v]) F_is_instruction.h (by rfl) ?_
  show Run (execs _ b_is_instruction [some v, none] S) (Fin false S P)
  unfold b_is_instruction
  rcases isi_tup hv with ⟨xs, rfl⟩ | ht
  · have hl := hl xs rfl
    have c0 : Is ⟨callN tab W (n + 1), W⟩ (.not (.bif "isinstance" (.cons (.loc 0) (.cons (.con (.ty "tuple")) .nil)))) [some (.tup xs), none] S false := (Is.not (Is.inst (Vl.loc rfl) (b := true) rfl)).of_eq rfl
    have c1 := Is.not (is_strs (C := ⟨callN tab W (n + 1), W⟩) (ρ := [some (.tup xs), none]) (S := S) (i := 1) (e := .loc 0) (Vl.loc rfl) hv hl (by simp))
    refine run_no (x := !(xs.all isStr)) ((Is.or c0 fun _ => c1).of_eq rfl) (fun e => ?_) fun e => ?_
    · have : insB (.tup xs) = false := by
        cases q : insB (.tup xs) with
        | false => rfl
        | true =>
          obtain ⟨i, hi, _⟩ := insB_of q
          cases i <;> (cases hi; cases e)
      rw [this] at h
      exact fin_b h
    · obtain ⟨zs, rfl⟩ := strs_all (by simpa using e)
      have hz := strs_flat hv
      have hlen : Vl ⟨callN tab W (n + 1), W⟩ (.bif "len" (.cons (.loc 0) .nil)) [some (.tup (zs.map .str)), none] S (.int zs.length) := Vl.len (Vl.loc rfl) (by rw [vw0_tup, bif_len_tup, List.length_map])
      have t2 := Is.cmp (op := .eq) hlen (Vl.con (v := .int 2)) eq_int
      refine run_ifB t2 (fun q => ?_) fun q => ?_
      · have q : zs.length = 2 := by
          have := beq_iff_eq.mp q
          omega
        match zs, q with
        | [w, x], _ =>
          have hw := neatL_mem.mp (show T.neatL k [T.str w, T.str x] = true from hv) (.str w) (by simp)
          have hx := neatL_mem.mp (show T.neatL k [T.str w, T.str x] = true from hv) (.str x) (by simp)
          refine run_ret ((Is.and (Is.cmp (op := .in_) (Vl.idx (x := .tup [.str w, .str x]) (y := .int 0) (Vl.loc rfl) Vl.con idx0t) vl_tup3 (in3 hw)) fun _ => Is.call1 (f := "is_variable") (b := varB x) (Vl.idx (x := .tup [.str w, .str x]) (y := .int 1) (Vl.loc rfl) Vl.con idx1t) fun Q q => t_is_variable (n := n) hx hk q).run ?_)
          rw [nx_rt]
          exact fin_b h
      · rw [rxs_nil, nx_nx]
        refine run_ret ((Is.cmp (op := .eq) (x := .tup (zs.map .str)) (y := .tup [.str "fence"]) (Vl.loc rfl) vl_tup1 (fence_eq hz)).run ?_)
        have : insB (.tup (zs.map .str)) = fenB zs := by
          match zs, q with
          | [], _ => rfl
          | [w], _ => rfl
          | [a, b], q => exact absurd q (by simp)
          | _ :: _ :: _ :: _, _ => rfl
        rw [this] at h
        exact fin_b h
  · refine run_no (x := true) ((Is.or (y := true) (Is.not (Is.inst (Vl.loc rfl) (by rw [neat_vw hv]; exact ht))) (fun z => absurd z (by decide))).of_eq (by decide)) (fun _ => ?_) (fun z => absurd z (by decide))
    have : insB v = false := by
      cases q : insB v with
      | false => rfl
      | true =>
        obtain ⟨i, rfl, _⟩ := insB_of q
        cases i <;> cases ht
    rw [this] at h
    exact fin_b h
theorem t_is_thread [F_is_thread tab] [F_is_instruction tab] [F_is_variable tab] {k d w : Nat} {v : T} (hv : V k d w v) (hk : k ≤ 900) (hw : w ≤ lim) (h : P (.bl (rowB v)) S) : Run (callN tab W (n + 3) "is_thread" [v] [] S) P := by
  refine run_call (fn := fn_is_thread) (as := [v]) F_is_thread.h (by rfl) ?_
  show Run (execs _ b_is_thread [some v, none] S) (Fin false S P)
  unfold b_is_thread
  rcases isi_tup hv.n with ⟨xs, rfl⟩ | ht
  · have c0 : Is ⟨callN tab W (n + 2), W⟩ (.not (.bif "isinstance" (.cons (.loc 0) (.cons (.con (.ty "tuple")) .nil)))) [some (.tup xs), none] S false := (Is.not (Is.inst (Vl.loc rfl) (b := true) rfl)).of_eq rfl
    have hlen : Vl ⟨callN tab W (n + 2), W⟩ (.bif "len" (.cons (.loc 0) .nil)) [some (.tup xs), none] S (.int xs.length) := Vl.len (Vl.loc rfl) bif_len_tup
    have t1 := Is.cmp (op := .gt) hlen (Vl.con (v := .int 16)) gt_int
    have hln := V.len hv
    have hn := neatL_mem.mp (show T.neatL k xs = true from hv.n)
    refine run_no (x := decide (16 < (xs.length : Int))) ((Is.or c0 fun _ => t1).of_eq rfl) (fun e => ?_) fun e => ?_
    · have e := of_decide_eq_true e
      have : rowB (.tup xs) = false := by
        show (decide (xs.length ≤ 16) && _) = false
        rw [decide_eq_false (by omega)]; rfl
      rw [this] at h
      exact fin_b h
    · have e := of_decide_eq_false e
      have q := is_allc (C := ⟨callN tab W (n + 2), W⟩) (ρ := [some (.tup xs), none]) (S := S) (i := 1) (e := .loc 0) (elt := .call "is_instruction" (.cons (.loc 1) .nil) [] .nil) (f := insB) (Vl.loc rfl) (by omega) fun x hx => Is.call1 (f := "is_instruction") (Vl.loc rfl) fun Q q => t_is_instruction (n := n) (hn x hx) hk (fun ys e => by
        obtain ⟨d', _, hx'⟩ := V.mem hv x hx
        subst e
        have := V.len hx'
        omega) q
      refine run_ret (q.run ?_)
      have : rowB (.tup xs) = xs.all insB := by
        show (decide (xs.length ≤ 16) && _) = _
        rw [decide_eq_true (by omega)]; rfl
      rw [this] at h
      exact fin_b h
  · refine run_no (x := true) ((Is.or (y := true) (Is.not (Is.inst (Vl.loc rfl) (by rw [hv.vw]; exact ht))) (fun z => absurd z (by decide))).of_eq (by decide)) (fun _ => ?_) (fun z => absurd z (by decide))
    have : rowB v = false := by
      cases v <;> first | rfl | cases ht
    rw [this] at h
    exact fin_b h
theorem t_variables_of [F_variables_of tab] [F_is_access_to tab] {p : List (List In)} (hp : p.length ≤ 6) (hr : ∀ r ∈ p, r.length ≤ 16 ∧ ∀ i ∈ r, i.fit) (h : P (.tup ((sortU (names p)).map .str)) S) : Run (callN tab W (n + 2) "variables_of" [planT p] [] S) P := by
  refine run_call (fn := fn_variables_of) (as := [planT p]) F_variables_of.h (by rfl) ?_
  show Run (execs _ b_variables_of [some (planT p), none, none] S) (Fin false S P)
  unfold b_variables_of
  have hbel : ∀ zs : List Str, T.belL S.length (zs.map .str) = true := belL_str
  have rowlen : ∀ r ∈ p, (r.filterMap In.nm).length ≤ 16 := fun r h => Nat.le_trans (List.length_filterMap_le _ _) (hr r h).1
  have nl : (names p).length ≤ 16 * p.length := by
    clear h hp hr
    induction p with
    | nil => simp [names]
    | cons r p ih =>
      have := rowlen r List.mem_cons_self
      have := ih fun r h => rowlen r (List.mem_cons_of_mem _ h)
      show ((r.filterMap In.nm) ++ names p).length ≤ _
      rw [List.length_append, List.length_cons]
      omega
  let g2 : T → Option Str := fun y => match y with
    | .tup [_, .str x] => some x
    | _ => none
  let g1 : T → List Str := fun r => match r with
    | .tup ys => ys.filterMap g2
    | _ => []
  have e1 : (p.map rowT).flatMap g1 = names p := nmsT_plan p
  refine run_ret ?_
  rw [rv_bty, rs_cons, rv_ssc, ri_plain, rv_loc]
  refine ⟨_, rfl, _, rfl, ?_⟩
  refine run_compS2P g1 (by rw [List.nil_append, e1]; omega) (fun x hx acc hl => ?_) ?_
  · obtain ⟨r, hrm, rfl⟩ := List.mem_map.mp hx
    unfold body0
    rw [rv_bind, rv_opt]
    refine ⟨_, rfl, ?_⟩
    rw [rv_bind, rc_nil, if_pos rfl, rv_bind, ri_plain, rv_loc]
    refine ⟨rowT r, by simp [wipe], _, rfl, ?_⟩
    refine run_compSP g2 (by rw [List.length_append] at hl; rw [List.length_map]; have := (hr r hrm).1; omega) (fun y hy => ?_) ⟨rfl, rfl⟩
    obtain ⟨i, him, rfl⟩ := List.mem_map.mp hy
    unfold body1
    rw [rv_bind, rv_opt]
    refine ⟨_, rfl, ?_⟩
    rw [rv_bind, rc_cons, rv_call, rs_cons, rv_loc]
    refine ⟨i.t, by simp [wipe], ?_⟩
    rw [rs_nil, rs_nil]
    refine t_is_access (n := n) ?_
    refine ⟨!i.isFe, rfl, ?_⟩
    cases i with
    | fence =>
      show Run (if false = true then _ else _) _
      rw [if_neg (by decide), rv_ok, if_neg (by decide)]
      exact ⟨rfl, rfl⟩
    | acc w x =>
      by_cases hw : w = "fence"
      · exfalso
        have := ((hr r hrm).2 _ him).1
        subst hw
        exact absurd this (by decide)
      · have : (In.acc w x).isFe = false := decide_eq_false hw
        rw [this]
        show Run (if true = true then _ else _) _
        rw [if_pos rfl, rc_nil, if_pos rfl, rv_bind, rv_idx, rv_loc]
        refine ⟨(In.acc w x).t, by simp [wipe], ?_⟩
        rw [rv_con]
        exact ⟨.str x, idx1t, rfl, rfl⟩
  · rw [List.nil_append, e1]
    refine ⟨by omega, ?_⟩
    rw [rs_nil]
    refine ⟨.tup ((sortU (names p)).map .str), bty_tupv, ?_⟩
    rw [fin_rt', gc_eq (show (T.tup ((sortU (names p)).map .str)).bel S.length = true from hbel _)]
    exact h
theorem rep_cmp2 {C : Cfg} {ρ : Env} {e : Ex} {n a b : Nat} (he : Vl C e ρ S (.int n)) : Is C (.cmp2 .le .le (.con (.int a)) e (.con (.int b))) ρ S (decide (a ≤ n) && decide (n ≤ b)) := by
  unfold Is
  rw [rv_cmp2, rv_con]
  refine he.run ⟨decide (a ≤ n), ?_, ?_⟩
  · show some (decide ((a : Int) ≤ (n : Int))) = _
    by_cases h : a ≤ n
    · rw [decide_eq_true h, decide_eq_true (by omega)]
    · rw [decide_eq_false h, decide_eq_false (by omega)]
  · by_cases h : a ≤ n
    · rw [decide_eq_true h, if_pos rfl, rv_bind, rv_con, rv_bind, rv_opt]
      refine ⟨decide (n ≤ b), ?_, rfl, rfl⟩
      show some (decide ((n : Int) ≤ (b : Int))) = _
      by_cases h : n ≤ b
      · rw [decide_eq_true h, decide_eq_true (by omega)]
      · rw [decide_eq_false h, decide_eq_false (by omega)]
    · rw [decide_eq_false h, if_neg (by decide)]
      exact ⟨rfl, rfl⟩
theorem Vl.lenc {C : Cfg} {ρ : Env} {e : Ex} {v u : T} (h : ∀ Q : T → Sto → Prop, Q v S → Run (ev C e ρ S) Q) (hb : bifT "len" [vw S v] = some u) : Vl C (.bif "len" (.cons e .nil)) ρ S u := by
  unfold Vl
  rw [rv_bif, rs_cons]
  refine h _ ?_
  rw [rs_nil]
  exact ⟨_, hb, rfl, rfl⟩
theorem t_is_program [F_is_program tab] [F_is_thread tab] [F_is_instruction tab] [F_is_variable tab] [F_variables_of tab] [F_is_access_to tab] {k d w : Nat} {v : T} (vs : List T) (kv : List (Str × T)) (hb : bindA fn_is_program.ps vs kv = some [v]) (hv : V k d w v) (hk : k ≤ 900) (hw : w ≤ lim) (h : P (.bl (planB v)) S) :
    Run (callN tab W (n + 4) "is_program" vs kv S) P := by
  refine run_call (fn := fn_is_program) (as := [v]) F_is_program.h hb ?_
  show Run (execs _ b_is_program [some v, none] S) (Fin false S P)
  unfold b_is_program
  rcases isi_tup hv.n with ⟨xs, rfl⟩ | ht
  · have c0 : Is ⟨callN tab W (n + 3), W⟩ (.not (.bif "isinstance" (.cons (.loc 0) (.cons (.con (.ty "tuple")) .nil)))) [some (.tup xs), none] S false := (Is.not (Is.inst (Vl.loc rfl) (b := true) rfl)).of_eq rfl
    have hlen : Vl ⟨callN tab W (n + 3), W⟩ (.bif "len" (.cons (.loc 0) .nil)) [some (.tup xs), none] S (.int xs.length) := Vl.len (Vl.loc rfl) bif_len_tup
    have c1 := Is.not (rep_cmp2 (a := 1) (b := 6) hlen)
    refine run_no (x := !(decide (1 ≤ xs.length) && decide (xs.length ≤ 6))) ((Is.or c0 fun _ => c1).of_eq rfl) (fun e => ?_) fun e => ?_
    · have : planB (.tup xs) = false := by
        show ((decide (1 ≤ xs.length) && decide (xs.length ≤ 6)) && _) = false
        rw [show (decide (1 ≤ xs.length) && decide (xs.length ≤ 6)) = false by simpa only [Bool.not_eq_true'] using e]; rfl
      rw [this] at h
      exact fin_b h
    · have e : (decide (1 ≤ xs.length) && decide (xs.length ≤ 6)) = true := by simpa only [Bool.not_eq_false'] using e
      have hpl : planB (.tup xs) = (xs.all rowB && decide ((addsK [] (nmsT xs)).length ≤ 6)) := by
        show ((decide (1 ≤ xs.length) && decide (xs.length ≤ 6)) && _) = _
        rw [e]; rfl
      rw [Bool.and_eq_true, decide_eq_true_eq, decide_eq_true_eq] at e
      have q1 := is_allc (C := ⟨callN tab W (n + 3), W⟩) (ρ := [some (.tup xs), none]) (S := S) (i := 1) (e := .loc 0) (elt := .call "is_thread" (.cons (.loc 1) .nil) [] .nil) (f := rowB) (Vl.loc rfl) (by unfold lim; omega) fun x hx => Is.call1 (f := "is_thread") (Vl.loc rfl) fun Q q => by
        obtain ⟨d', _, hx'⟩ := V.mem hv x hx
        exact t_is_thread (n := n) hx' hk hw q
      refine run_ret ((Is.and (y := decide ((addsK [] (nmsT xs)).length ≤ 6)) q1 fun ha => ?_).run ?_)
      · obtain ⟨p, rfl, hp⟩ := all_row ha
        rw [nmsT_plan]
        have hl6 : p.length ≤ 6 := by simpa using e.2
        have hlen2 : Vl ⟨callN tab W (n + 3), W⟩ (.bif "len" (.cons (.call "variables_of" (.cons (.loc 0) .nil) [] .nil) .nil)) [some (.tup (p.map rowT)), none] S (.int (sortU (names p)).length) := Vl.lenc (v := .tup ((sortU (names p)).map .str)) (fun Q q => by
          rw [rv_call, rs_cons, rv_loc]
          refine ⟨_, rfl, ?_⟩
          rw [rs_nil, rs_nil]
          exact t_variables_of (n := n + 1) hl6 hp q) (by rw [vw0_tup, bif_len_tup, List.length_map])
        have eq : (sortU (names p)).length = (addsK [] (names p)).length := (sortS_perm _).length_eq
        rw [eq] at hlen2
        refine (Is.cmp (op := .le) hlen2 (Vl.con (v := .int 6)) le_int).of_eq ?_
        by_cases c : (addsK [] (names p)).length ≤ 6
        · rw [decide_eq_true c, decide_eq_true (by omega)]
        · rw [decide_eq_false c, decide_eq_false (by omega)]
      · rw [hpl] at h
        exact fin_b h
  · refine run_no (x := true) ((Is.or (y := true) (Is.not (Is.inst (Vl.loc rfl) (by rw [hv.vw]; exact ht))) (fun z => absurd z (by decide))).of_eq (by decide)) (fun _ => ?_) (fun z => absurd z (by decide))
    have : planB v = false := by
      cases v <;> first | rfl | cases ht
    rw [this] at h
    exact fin_b h
end Px.sh
end
section
set_option linter.all false
set_option maxRecDepth 100000
namespace Px.k03
open PySem L2 Px
abbrev fn_is_access_to : Fn := Px.sh.fn_is_access_to
def b_does_store : Sms := (.cons (.ret (.cmp .in_ (.idx (.loc 0) (.con (.int 0))) (.tup (.cons (.con (.str "store")) (.cons (.con (.str "swap")) .nil)))))
  .nil)
def fn_does_store : Fn := ⟨["instruction"], 1, false, b_does_store⟩
abbrev fn_variables_of : Fn := Px.sh.fn_variables_of
def b_instruction_at : Sms := (.cons (.asg (.tps [2, 3]) (.loc 1))
  (.cons (.ret (.idx (.idx (.loc 0) (.loc 2)) (.loc 3)))
  .nil))
def fn_instruction_at : Fn := ⟨["program", "place"], 4, false, b_instruction_at⟩
def b_accesses : Sms := (.cons (.asg (.nm 1) (.new (.lst .nil)))
  (.cons (.for (.tps [2, 3]) (.enum (.loc 0)) (.cons (.exp (.mth (.loc 1) "extend" (.cons (.comp [4, 5] (.tps [4, 5]) (.enum (.loc 3)) (.cons (.call "is_access_to" (.cons (.loc 5) .nil) [] .nil) .nil) (.tup (.cons (.loc 2) (.cons (.loc 4) .nil)))) .nil)))
  .nil))
  (.cons (.ret (.bty "tuple" (.cons (.loc 1) .nil)))
  .nil)))
def fn_accesses : Fn := ⟨["program"], 6, false, b_accesses⟩
def b_meets : Sms := (.cons (.par [3, 4] (.cons (.call "instruction_at" (.cons (.loc 0) (.cons (.loc 1) .nil)) [] .nil) (.cons (.call "instruction_at" (.cons (.loc 0) (.cons (.loc 2) .nil)) [] .nil) .nil)))
  (.cons (.ret (.and (.cmp .eq (.idx (.loc 3) (.con (.int 1))) (.idx (.loc 4) (.con (.int 1)))) (.or (.call "does_store" (.cons (.loc 3) .nil) [] .nil) (.call "does_store" (.cons (.loc 4) .nil) [] .nil))))
  .nil))
def fn_meets : Fn := ⟨["program", "one", "other"], 5, false, b_meets⟩
abbrev fn__law_urn : Fn := Px.sh.fn__law_urn
abbrev fn__law_take : Fn := Px.sh.fn__law_take
abbrev fn__law_of : Fn := Px.sh.fn__law_of
abbrev fn__law_names : Fn := Px.sh.fn__law_names
abbrev fn__law_instruction : Fn := Px.sh.fn__law_instruction
abbrev fn__law_plan : Fn := Px.sh.fn__law_plan
abbrev fn__law_near : Fn := Px.sh.fn__law_near
def b__law_do_meet : Sms := (.cons (.ret (.and (.cmp .eq (.idx (.loc 0) (.con (.int 1))) (.idx (.loc 1) (.con (.int 1)))) (.or (.cmp .ne (.idx (.loc 0) (.con (.int 0))) (.con (.str "load"))) (.cmp .ne (.idx (.loc 1) (.con (.int 0))) (.con (.str "load"))))))
  .nil)
def fn__law_do_meet : Fn := ⟨["_law_first", "_law_second"], 2, false, b__law_do_meet⟩
def b__law_plan_right : Sms := (.cons (.par [2, 3, 4] (.cons (.bif "repr" (.cons (.loc 0) .nil)) (.cons (.new (.lst .nil)) (.cons (.new (.lst .nil)) .nil))))
  (.cons (.for (.tps [5, 6]) (.enum (.loc 0)) (.cons (.for (.tps [7, 8]) (.enum (.loc 6)) (.cons (.ife (.cmp .ne (.idx (.loc 8) (.con (.int 0))) (.con (.str "fence"))) (.cons (.exp (.mth (.loc 3) "append" (.cons (.idx (.loc 8) (.con (.int 1))) .nil)))
  (.cons (.exp (.mth (.loc 4) "append" (.cons (.tup (.cons (.loc 5) (.cons (.loc 7) .nil))) .nil)))
  .nil)) .nil)
  .nil))
  .nil))
  (.cons (.asg (.nm 9) (.lst (.cons (.bty "tuple" (.cons (.sset true (.loc 3)) .nil)) (.cons (.bty "tuple" (.cons (.loc 4) .nil)) .nil))))
  (.cons (.ife (.cmp .ne (.bif "repr" (.cons (.lst (.cons (.call "variables_of" (.cons (.loc 0) .nil) [] .nil) (.cons (.call "accesses" (.cons (.loc 0) .nil) [] .nil) .nil))) .nil)) (.bif "repr" (.cons (.loc 9) .nil))) (.cons (.ret (.con (.bl false)))
  .nil) .nil)
  (.cons (.ife (.cmp .ne (.bif "repr" (.cons (.lst (.cons (.call "variables_of" .nil ["program"] (.cons (.loc 0) .nil)) (.cons (.call "accesses" .nil ["program"] (.cons (.loc 0) .nil)) .nil))) .nil)) (.bif "repr" (.cons (.loc 9) .nil))) (.cons (.ret (.con (.bl false)))
  .nil) .nil)
  (.cons (.asg (.nm 10) (.comp [5, 7] (.tps [5, 7]) (.plain (.loc 4)) .nil (.idx (.idx (.loc 0) (.loc 5)) (.loc 7))))
  (.cons (.for (.tps [11, 12]) (.plain (.slc (.lzip (.loc 4) (.loc 10)) .none (.some (.loc 1)))) (.cons (.for (.tps [13, 14]) (.plain (.slc (.lzip (.loc 4) (.loc 10)) .none (.some (.loc 1)))) (.cons (.asg (.nm 15) (.lst (.cons (.call "meets" (.cons (.loc 0) (.cons (.loc 11) (.cons (.loc 13) .nil))) [] .nil) (.cons (.call "meets" .nil ["other", "one", "program"] (.cons (.loc 13) (.cons (.loc 11) (.cons (.loc 0) .nil)))) .nil))))
  (.cons (.ife (.cmp .ne (.bif "repr" (.cons (.loc 15) .nil)) (.bif "repr" (.cons (.bin .mul (.lst (.cons (.call "_law_do_meet" (.cons (.loc 12) (.cons (.loc 14) .nil)) [] .nil) .nil)) (.con (.int 2))) .nil))) (.cons (.ret (.con (.bl false)))
  .nil) .nil)
  .nil)))
  .nil))
  (.cons (.ret (.cmp .eq (.bif "repr" (.cons (.loc 0) .nil)) (.loc 2)))
  .nil))))))))
def fn__law_plan_right : Fn := ⟨["_law_plan_here", "_law_most"], 16, false, b__law_plan_right⟩
def b__law_right : Sms := (.cons (.for (.nm 1) (.range (.cons (.con (.int 5)) .nil)) (.cons (.ife (.or (.not (.call "_law_plan_right" (.cons (.call "_law_plan" (.cons (.loc 0) (.cons (.con (.int 4)) (.cons (.con (.int 8)) (.cons (.con (.int 6)) .nil)))) [] .nil) (.cons (.con (.int 20)) .nil)) [] .nil)) (.not (.call "_law_plan_right" (.cons (.call "_law_near" (.cons (.loc 0) .nil) [] .nil) (.cons (.con (.int 20)) .nil)) [] .nil))) (.cons (.ret (.con (.bl false)))
  .nil) .nil)
  .nil))
  (.cons (.asg (.nm 2) (.bty "tuple" (.cons (.bin .mul (.lst (.cons (.bty "tuple" (.cons (.comp [3] (.nm 3) (.range (.cons (.con (.int 16)) .nil)) .nil (.call "_law_instruction" (.cons (.loc 0) (.cons (.lst (.cons (.con (.str "a")) (.cons (.con (.str "b")) (.cons (.con (.str "cd")) (.cons (.con (.str "efgh")) (.cons (.con (.str "y")) (.cons (.con (.str "z")) .nil))))))) .nil)) [] .nil)) .nil)) .nil)) (.con (.int 6))) .nil)))
  (.cons (.ret (.and (.call "_law_plan_right" (.cons (.loc 2) (.cons (.con (.int 12)) .nil)) [] .nil) (.and (.call "_law_plan_right" (.cons (.tup (.cons (.tup .nil) (.cons (.tup .nil) .nil))) (.cons (.con (.int 4)) .nil)) [] .nil) (.call "_law_plan_right" (.cons (.tup (.cons (.tup (.cons (.tup (.cons (.con (.str "fence")) .nil)) .nil)) .nil)) (.cons (.con (.int 4)) .nil)) [] .nil))))
  .nil)))
def fn__law_right : Fn := ⟨["_law_urn_here"], 4, false, b__law_right⟩
abbrev fn_law : Fn := Px.sh.fn_law
def fns : List (Str × Fn) := [("is_access_to", fn_is_access_to), ("does_store", fn_does_store), ("variables_of", fn_variables_of), ("instruction_at", fn_instruction_at), ("accesses", fn_accesses), ("meets", fn_meets), ("_law_urn", fn__law_urn), ("_law_take", fn__law_take), ("_law_of", fn__law_of), ("_law_names", fn__law_names), ("_law_instruction", fn__law_instruction), ("_law_plan", fn__law_plan), ("_law_near", fn__law_near), ("_law_do_meet", fn__law_do_meet), ("_law_plan_right", fn__law_plan_right), ("_law_right", fn__law_right), ("law", fn_law)]
def tab (x : Str) : Option Fn := Px.sh.lookF x fns
instance : Px.sh.F_is_access_to tab := ⟨by rfl⟩
instance : Px.sh.F_variables_of tab := ⟨by rfl⟩
instance : Px.sh.F__law_urn tab := ⟨by rfl⟩
instance : Px.sh.F__law_take tab := ⟨by rfl⟩
instance : Px.sh.F__law_of tab := ⟨by rfl⟩
instance : Px.sh.F__law_names tab := ⟨by rfl⟩
instance : Px.sh.F__law_instruction tab := ⟨by rfl⟩
instance : Px.sh.F__law_plan tab := ⟨by rfl⟩
instance : Px.sh.F__law_near tab := ⟨by rfl⟩
instance : Px.sh.F_law tab := ⟨by rfl⟩
end Px.k03
end
section
set_option linter.all false
set_option maxRecDepth 100000
namespace Px.k03
open PySem L2 Px
def top (i : Nat) : Stmt := PySem.Challenge.pw_ringfences_k03_variables_and_accesses.main.body.getD i (.Pass ⟨0, 0, 0, 0⟩)
abbrev s_is_access_to : Stmt := top 4
def e_is_access_to : Ent := ⟨"is_access_to", s_is_access_to, fn_is_access_to, ["instruction"], [(1, [])], []⟩
abbrev s_does_store : Stmt := top 5
def e_does_store : Ent := ⟨"does_store", s_does_store, fn_does_store, ["instruction"], [(1, [])], []⟩
abbrev s_variables_of : Stmt := top 6
def e_variables_of : Ent := ⟨"variables_of", s_variables_of, fn_variables_of, ["program", "thread", "instruction"], [(0, ["program"]), (1, [])], []⟩
abbrev s_instruction_at : Stmt := top 7
def e_instruction_at : Ent := ⟨"instruction_at", s_instruction_at, fn_instruction_at, ["program", "place", "thread", "at"], [(2, [])], []⟩
abbrev s_accesses : Stmt := top 8
def e_accesses : Ent := ⟨"accesses", s_accesses, fn_accesses, ["program", "found", "thread", "instructions", "at", "instruction"], [(0, ["program"]), (1, [])], []⟩
abbrev s_meets : Stmt := top 9
def e_meets : Ent := ⟨"meets", s_meets, fn_meets, ["program", "one", "other", "first", "second"], [(0, ["other", "one", "program"]), (3, [])], []⟩
abbrev s__law_urn : Stmt := top 11
def e__law_urn : Ent := ⟨"_law_urn", s__law_urn, fn__law_urn, ["_law_script", "_law_k", "_law_cell", "_law_own"], [(2, [])], []⟩
abbrev s__law_take : Stmt := top 12
def e__law_take : Ent := ⟨"_law_take", s__law_take, fn__law_take, ["_law_urn_here", "_law_many", "_law_digit", "_law_prime", "_law_mixed"], [(2, [])], []⟩
abbrev s__law_of : Stmt := top 13
def e__law_of : Ent := ⟨"_law_of", s__law_of, fn__law_of, ["_law_urn_here", "_law_some"], [(2, [])], []⟩
abbrev s__law_names : Stmt := top 14
def e__law_names : Ent := ⟨"_law_names", s__law_names, fn__law_names, ["_law_urn_here", "_law_many", "_law_left", "_law_found"], [(2, [])], []⟩
abbrev s__law_instruction : Stmt := top 15
def e__law_instruction : Ent := ⟨"_law_instruction", s__law_instruction, fn__law_instruction, ["_law_urn_here", "_law_names_here", "_law_sort_of"], [(2, [])], []⟩
abbrev s__law_plan : Stmt := top 16
def e__law_plan : Ent := ⟨"_law_plan", s__law_plan, fn__law_plan, ["_law_urn_here", "_law_threads", "_law_most", "_law_names_most", "_law_names_here", "_law_found", "_law_thread", "_law_turn"], [(4, [])], []⟩
abbrev s__law_near : Stmt := top 17
def e__law_near : Ent := ⟨"_law_near", s__law_near, fn__law_near, ["_law_urn_here", "_law_names_here", "_law_x", "_law_y", "_law_z", "_law_some", "_law_found", "_law_turn", "_law_thread", "_law_at"], [(1, [])], []⟩
abbrev s__law_do_meet : Stmt := top 18
def e__law_do_meet : Ent := ⟨"_law_do_meet", s__law_do_meet, fn__law_do_meet, ["_law_first", "_law_second"], [(2, [])], []⟩
abbrev s__law_plan_right : Stmt := top 19
def e__law_plan_right : Ent := ⟨"_law_plan_right", s__law_plan_right, fn__law_plan_right, ["_law_plan_here", "_law_most", "_law_kept", "_law_names_here", "_law_spots", "_law_thread", "_law_row", "_law_at", "_law_item", "_law_due", "_law_here", "_law_spot", "_law_first", "_law_far", "_law_second", "_law_told"], [(2, [])], []⟩
abbrev s__law_right : Stmt := top 20
def e__law_right : Ent := ⟨"_law_right", s__law_right, fn__law_right, ["_law_urn_here", "_law_turn", "_law_great", "_law_at"], [(1, [])], []⟩
abbrev s_law : Stmt := top 21
def e_law : Ent := ⟨"law", s_law, fn_law, ["_law_script", "_law_k"], [(1, [])], []⟩
def pg : Pg := ⟨[e_is_access_to, e_does_store, e_variables_of, e_instruction_at, e_accesses, e_meets, e__law_urn, e__law_take, e__law_of, e__law_names, e__law_instruction, e__law_plan, e__law_near, e__law_do_meet, e__law_plan_right, e__law_right, e_law], [("FENCE", (.str "fence")), ("SWAP", (.str "swap")), ("STORE", (.str "store"))], ["tuple", "sorted", "enumerate", "abs", "int", "len", "range", "list", "repr", "zip", "set", "all", "max", "min"], []⟩
theorem tab_eq : pg.tab = tab := funext fun x => by rfl
theorem ck_is_access_to : ckSs (pg.dat e_is_access_to) (scOf e_is_access_to.st) (defBody e_is_access_to.st) e_is_access_to.fn.body = true := by decide +kernel
theorem ok_is_access_to : EntOk pg e_is_access_to := ⟨ck_is_access_to, ⟨rfl, rfl, rfl, by decide +kernel, rfl, by decide +kernel, by decide +kernel⟩, rfl, by first | rfl | kernel_rfl, .inl rfl⟩
theorem bd_is_access_to_0 {kV doc pm : Value} {an : Option Addr} {cd ct : Value} : BindOk (PySem.W.fnOf "is_access_to" "is_access_to" (defArgs s_is_access_to) (defBody s_is_access_to) (defScope s_is_access_to) .none kV doc pm an cd ct) fn_is_access_to.ps 1 [] := fun us ws h1 h2 => match us, ws, h1, h2 with | [_], [], _, _ => by first | rfl | kernel_rfl
theorem ck_does_store : ckSs (pg.dat e_does_store) (scOf e_does_store.st) (defBody e_does_store.st) e_does_store.fn.body = true := by decide +kernel
theorem ok_does_store : EntOk pg e_does_store := ⟨ck_does_store, ⟨rfl, rfl, rfl, by decide +kernel, rfl, by decide +kernel, by decide +kernel⟩, rfl, by first | rfl | kernel_rfl, .inl rfl⟩
theorem bd_does_store_0 {kV doc pm : Value} {an : Option Addr} {cd ct : Value} : BindOk (PySem.W.fnOf "does_store" "does_store" (defArgs s_does_store) (defBody s_does_store) (defScope s_does_store) .none kV doc pm an cd ct) fn_does_store.ps 1 [] := fun us ws h1 h2 => match us, ws, h1, h2 with | [_], [], _, _ => by first | rfl | kernel_rfl
theorem ck_variables_of : ckSs (pg.dat e_variables_of) (scOf e_variables_of.st) (defBody e_variables_of.st) e_variables_of.fn.body = true := by decide +kernel
theorem ok_variables_of : EntOk pg e_variables_of := ⟨ck_variables_of, ⟨rfl, rfl, rfl, by decide +kernel, rfl, by decide +kernel, by decide +kernel⟩, rfl, by first | rfl | kernel_rfl, .inl rfl⟩
theorem bd_variables_of_0 {kV doc pm : Value} {an : Option Addr} {cd ct : Value} : BindOk (PySem.W.fnOf "variables_of" "variables_of" (defArgs s_variables_of) (defBody s_variables_of) (defScope s_variables_of) .none kV doc pm an cd ct) fn_variables_of.ps 0 ["program"] := fun us ws h1 h2 => match us, ws, h1, h2 with | [], [_], _, _ => by first | rfl | kernel_rfl
theorem bd_variables_of_1 {kV doc pm : Value} {an : Option Addr} {cd ct : Value} : BindOk (PySem.W.fnOf "variables_of" "variables_of" (defArgs s_variables_of) (defBody s_variables_of) (defScope s_variables_of) .none kV doc pm an cd ct) fn_variables_of.ps 1 [] := fun us ws h1 h2 => match us, ws, h1, h2 with | [_], [], _, _ => by first | rfl | kernel_rfl
theorem ck_instruction_at : ckSs (pg.dat e_instruction_at) (scOf e_instruction_at.st) (defBody e_instruction_at.st) e_instruction_at.fn.body = true := by decide +kernel
theorem ok_instruction_at : EntOk pg e_instruction_at := ⟨ck_instruction_at, ⟨rfl, rfl, rfl, by decide +kernel, rfl, by decide +kernel, by decide +kernel⟩, rfl, by first | rfl | kernel_rfl, .inl rfl⟩
theorem bd_instruction_at_0 {kV doc pm : Value} {an : Option Addr} {cd ct : Value} : BindOk (PySem.W.fnOf "instruction_at" "instruction_at" (defArgs s_instruction_at) (defBody s_instruction_at) (defScope s_instruction_at) .none kV doc pm an cd ct) fn_instruction_at.ps 2 [] := fun us ws h1 h2 => match us, ws, h1, h2 with | [_, _], [], _, _ => by first | rfl | kernel_rfl
theorem ck_accesses : ckSs (pg.dat e_accesses) (scOf e_accesses.st) (defBody e_accesses.st) e_accesses.fn.body = true := by decide +kernel
theorem ok_accesses : EntOk pg e_accesses := ⟨ck_accesses, ⟨rfl, rfl, rfl, by decide +kernel, rfl, by decide +kernel, by decide +kernel⟩, rfl, by first | rfl | kernel_rfl, .inl rfl⟩
theorem bd_accesses_0 {kV doc pm : Value} {an : Option Addr} {cd ct : Value} : BindOk (PySem.W.fnOf "accesses" "accesses" (defArgs s_accesses) (defBody s_accesses) (defScope s_accesses) .none kV doc pm an cd ct) fn_accesses.ps 0 ["program"] := fun us ws h1 h2 => match us, ws, h1, h2 with | [], [_], _, _ => by first | rfl | kernel_rfl
theorem bd_accesses_1 {kV doc pm : Value} {an : Option Addr} {cd ct : Value} : BindOk (PySem.W.fnOf "accesses" "accesses" (defArgs s_accesses) (defBody s_accesses) (defScope s_accesses) .none kV doc pm an cd ct) fn_accesses.ps 1 [] := fun us ws h1 h2 => match us, ws, h1, h2 with | [_], [], _, _ => by first | rfl | kernel_rfl
theorem ck_meets : ckSs (pg.dat e_meets) (scOf e_meets.st) (defBody e_meets.st) e_meets.fn.body = true := by decide +kernel
theorem ok_meets : EntOk pg e_meets := ⟨ck_meets, ⟨rfl, rfl, rfl, by decide +kernel, rfl, by decide +kernel, by decide +kernel⟩, rfl, by first | rfl | kernel_rfl, .inl rfl⟩
theorem bd_meets_0 {kV doc pm : Value} {an : Option Addr} {cd ct : Value} : BindOk (PySem.W.fnOf "meets" "meets" (defArgs s_meets) (defBody s_meets) (defScope s_meets) .none kV doc pm an cd ct) fn_meets.ps 0 ["other", "one", "program"] := fun us ws h1 h2 => match us, ws, h1, h2 with | [], [_, _, _], _, _ => by first | rfl | kernel_rfl
theorem bd_meets_1 {kV doc pm : Value} {an : Option Addr} {cd ct : Value} : BindOk (PySem.W.fnOf "meets" "meets" (defArgs s_meets) (defBody s_meets) (defScope s_meets) .none kV doc pm an cd ct) fn_meets.ps 3 [] := fun us ws h1 h2 => match us, ws, h1, h2 with | [_, _, _], [], _, _ => by first | rfl | kernel_rfl
theorem ck__law_urn : ckSs (pg.dat e__law_urn) (scOf e__law_urn.st) (defBody e__law_urn.st) e__law_urn.fn.body = true := by decide +kernel
theorem ok__law_urn : EntOk pg e__law_urn := ⟨ck__law_urn, ⟨rfl, rfl, rfl, by decide +kernel, rfl, by decide +kernel, by decide +kernel⟩, rfl, by first | rfl | kernel_rfl, .inl rfl⟩
theorem bd__law_urn_0 {kV doc pm : Value} {an : Option Addr} {cd ct : Value} : BindOk (PySem.W.fnOf "_law_urn" "_law_urn" (defArgs s__law_urn) (defBody s__law_urn) (defScope s__law_urn) .none kV doc pm an cd ct) fn__law_urn.ps 2 [] := fun us ws h1 h2 => match us, ws, h1, h2 with | [_, _], [], _, _ => by first | rfl | kernel_rfl
theorem ck__law_take : ckSs (pg.dat e__law_take) (scOf e__law_take.st) (defBody e__law_take.st) e__law_take.fn.body = true := by decide +kernel
theorem ok__law_take : EntOk pg e__law_take := ⟨ck__law_take, ⟨rfl, rfl, rfl, by decide +kernel, rfl, by decide +kernel, by decide +kernel⟩, rfl, by first | rfl | kernel_rfl, .inl rfl⟩
theorem bd__law_take_0 {kV doc pm : Value} {an : Option Addr} {cd ct : Value} : BindOk (PySem.W.fnOf "_law_take" "_law_take" (defArgs s__law_take) (defBody s__law_take) (defScope s__law_take) .none kV doc pm an cd ct) fn__law_take.ps 2 [] := fun us ws h1 h2 => match us, ws, h1, h2 with | [_, _], [], _, _ => by first | rfl | kernel_rfl
theorem ck__law_of : ckSs (pg.dat e__law_of) (scOf e__law_of.st) (defBody e__law_of.st) e__law_of.fn.body = true := by decide +kernel
theorem ok__law_of : EntOk pg e__law_of := ⟨ck__law_of, ⟨rfl, rfl, rfl, by decide +kernel, rfl, by decide +kernel, by decide +kernel⟩, rfl, by first | rfl | kernel_rfl, .inl rfl⟩
theorem bd__law_of_0 {kV doc pm : Value} {an : Option Addr} {cd ct : Value} : BindOk (PySem.W.fnOf "_law_of" "_law_of" (defArgs s__law_of) (defBody s__law_of) (defScope s__law_of) .none kV doc pm an cd ct) fn__law_of.ps 2 [] := fun us ws h1 h2 => match us, ws, h1, h2 with | [_, _], [], _, _ => by first | rfl | kernel_rfl
theorem ck__law_names : ckSs (pg.dat e__law_names) (scOf e__law_names.st) (defBody e__law_names.st) e__law_names.fn.body = true := by decide +kernel
theorem ok__law_names : EntOk pg e__law_names := ⟨ck__law_names, ⟨rfl, rfl, rfl, by decide +kernel, rfl, by decide +kernel, by decide +kernel⟩, rfl, by first | rfl | kernel_rfl, .inl rfl⟩
theorem bd__law_names_0 {kV doc pm : Value} {an : Option Addr} {cd ct : Value} : BindOk (PySem.W.fnOf "_law_names" "_law_names" (defArgs s__law_names) (defBody s__law_names) (defScope s__law_names) .none kV doc pm an cd ct) fn__law_names.ps 2 [] := fun us ws h1 h2 => match us, ws, h1, h2 with | [_, _], [], _, _ => by first | rfl | kernel_rfl
theorem ck__law_instruction : ckSs (pg.dat e__law_instruction) (scOf e__law_instruction.st) (defBody e__law_instruction.st) e__law_instruction.fn.body = true := by decide +kernel
theorem ok__law_instruction : EntOk pg e__law_instruction := ⟨ck__law_instruction, ⟨rfl, rfl, rfl, by decide +kernel, rfl, by decide +kernel, by decide +kernel⟩, rfl, by first | rfl | kernel_rfl, .inl rfl⟩
theorem bd__law_instruction_0 {kV doc pm : Value} {an : Option Addr} {cd ct : Value} : BindOk (PySem.W.fnOf "_law_instruction" "_law_instruction" (defArgs s__law_instruction) (defBody s__law_instruction) (defScope s__law_instruction) .none kV doc pm an cd ct) fn__law_instruction.ps 2 [] := fun us ws h1 h2 => match us, ws, h1, h2 with | [_, _], [], _, _ => by first | rfl | kernel_rfl
theorem ck__law_plan : ckSs (pg.dat e__law_plan) (scOf e__law_plan.st) (defBody e__law_plan.st) e__law_plan.fn.body = true := by decide +kernel
theorem ok__law_plan : EntOk pg e__law_plan := ⟨ck__law_plan, ⟨rfl, rfl, rfl, by decide +kernel, rfl, by decide +kernel, by decide +kernel⟩, rfl, by first | rfl | kernel_rfl, .inl rfl⟩
theorem bd__law_plan_0 {kV doc pm : Value} {an : Option Addr} {cd ct : Value} : BindOk (PySem.W.fnOf "_law_plan" "_law_plan" (defArgs s__law_plan) (defBody s__law_plan) (defScope s__law_plan) .none kV doc pm an cd ct) fn__law_plan.ps 4 [] := fun us ws h1 h2 => match us, ws, h1, h2 with | [_, _, _, _], [], _, _ => by first | rfl | kernel_rfl
theorem ck__law_near : ckSs (pg.dat e__law_near) (scOf e__law_near.st) (defBody e__law_near.st) e__law_near.fn.body = true := by decide +kernel
theorem ok__law_near : EntOk pg e__law_near := ⟨ck__law_near, ⟨rfl, rfl, rfl, by decide +kernel, rfl, by decide +kernel, by decide +kernel⟩, rfl, by first | rfl | kernel_rfl, .inl rfl⟩
theorem bd__law_near_0 {kV doc pm : Value} {an : Option Addr} {cd ct : Value} : BindOk (PySem.W.fnOf "_law_near" "_law_near" (defArgs s__law_near) (defBody s__law_near) (defScope s__law_near) .none kV doc pm an cd ct) fn__law_near.ps 1 [] := fun us ws h1 h2 => match us, ws, h1, h2 with | [_], [], _, _ => by first | rfl | kernel_rfl
theorem ck__law_do_meet : ckSs (pg.dat e__law_do_meet) (scOf e__law_do_meet.st) (defBody e__law_do_meet.st) e__law_do_meet.fn.body = true := by decide +kernel
theorem ok__law_do_meet : EntOk pg e__law_do_meet := ⟨ck__law_do_meet, ⟨rfl, rfl, rfl, by decide +kernel, rfl, by decide +kernel, by decide +kernel⟩, rfl, by first | rfl | kernel_rfl, .inl rfl⟩
theorem bd__law_do_meet_0 {kV doc pm : Value} {an : Option Addr} {cd ct : Value} : BindOk (PySem.W.fnOf "_law_do_meet" "_law_do_meet" (defArgs s__law_do_meet) (defBody s__law_do_meet) (defScope s__law_do_meet) .none kV doc pm an cd ct) fn__law_do_meet.ps 2 [] := fun us ws h1 h2 => match us, ws, h1, h2 with | [_, _], [], _, _ => by first | rfl | kernel_rfl
theorem ck__law_plan_right : ckSs (pg.dat e__law_plan_right) (scOf e__law_plan_right.st) (defBody e__law_plan_right.st) e__law_plan_right.fn.body = true := by decide +kernel
theorem ok__law_plan_right : EntOk pg e__law_plan_right := ⟨ck__law_plan_right, ⟨rfl, rfl, rfl, by decide +kernel, rfl, by decide +kernel, by decide +kernel⟩, rfl, by first | rfl | kernel_rfl, .inl rfl⟩
theorem bd__law_plan_right_0 {kV doc pm : Value} {an : Option Addr} {cd ct : Value} : BindOk (PySem.W.fnOf "_law_plan_right" "_law_plan_right" (defArgs s__law_plan_right) (defBody s__law_plan_right) (defScope s__law_plan_right) .none kV doc pm an cd ct) fn__law_plan_right.ps 2 [] := fun us ws h1 h2 => match us, ws, h1, h2 with | [_, _], [], _, _ => by first | rfl | kernel_rfl
theorem ck__law_right : ckSs (pg.dat e__law_right) (scOf e__law_right.st) (defBody e__law_right.st) e__law_right.fn.body = true := by decide +kernel
theorem ok__law_right : EntOk pg e__law_right := ⟨ck__law_right, ⟨rfl, rfl, rfl, by decide +kernel, rfl, by decide +kernel, by decide +kernel⟩, rfl, by first | rfl | kernel_rfl, .inl rfl⟩
theorem bd__law_right_0 {kV doc pm : Value} {an : Option Addr} {cd ct : Value} : BindOk (PySem.W.fnOf "_law_right" "_law_right" (defArgs s__law_right) (defBody s__law_right) (defScope s__law_right) .none kV doc pm an cd ct) fn__law_right.ps 1 [] := fun us ws h1 h2 => match us, ws, h1, h2 with | [_], [], _, _ => by first | rfl | kernel_rfl
theorem ck_law : ckSs (pg.dat e_law) (scOf e_law.st) (defBody e_law.st) e_law.fn.body = true := by decide +kernel
theorem ok_law : EntOk pg e_law := ⟨ck_law, ⟨rfl, rfl, rfl, by decide +kernel, rfl, by decide +kernel, by decide +kernel⟩, rfl, by first | rfl | kernel_rfl, .inl rfl⟩
theorem bd_law_0 {kV doc pm : Value} {an : Option Addr} {cd ct : Value} : BindOk (PySem.W.fnOf "law" "law" (defArgs s_law) (defBody s_law) (defScope s_law) .none kV doc pm an cd ct) fn_law.ps 1 [] := fun us ws h1 h2 => match us, ws, h1, h2 with | [_], [], _, _ => by first | rfl | kernel_rfl
theorem oks : ∀ e ∈ pg.ents, EntOk pg e := (List.forall_mem_cons.mpr ⟨ok_is_access_to, (List.forall_mem_cons.mpr ⟨ok_does_store, (List.forall_mem_cons.mpr ⟨ok_variables_of, (List.forall_mem_cons.mpr ⟨ok_instruction_at, (List.forall_mem_cons.mpr ⟨ok_accesses, (List.forall_mem_cons.mpr ⟨ok_meets, (List.forall_mem_cons.mpr ⟨ok__law_urn, (List.forall_mem_cons.mpr ⟨ok__law_take, (List.forall_mem_cons.mpr ⟨ok__law_of, (List.forall_mem_cons.mpr ⟨ok__law_names, (List.forall_mem_cons.mpr ⟨ok__law_instruction, (List.forall_mem_cons.mpr ⟨ok__law_plan, (List.forall_mem_cons.mpr ⟨ok__law_near, (List.forall_mem_cons.mpr ⟨ok__law_do_meet, (List.forall_mem_cons.mpr ⟨ok__law_plan_right, (List.forall_mem_cons.mpr ⟨ok__law_right, (List.forall_mem_cons.mpr ⟨ok_law, (fun _ h => by cases h)⟩)⟩)⟩)⟩)⟩)⟩)⟩)⟩)⟩)⟩)⟩)⟩)⟩)⟩)⟩)⟩)⟩)
theorem top_ok {P : Params} {K : PySem.W.Frag} {h : Heap} {mg : Str → Option Value} (X : K.In h) (G : h.Ns mainGlobals mg) {f0 f1 f2 f3 f4 f5 f6 f7 f8 f9 f10 f11 f12 f13 f14 f15 f16 : Addr} {od0 an0 od1 an1 od2 an2 od3 an3 od4 an4 od5 an5 od6 an6 od7 an7 od8 an8 od9 an9 od10 an10 od11 an11 od12 an12 od13 an13 od14 an14 od15 an15 od16 an16 : Option Addr} {sl0 sl1 sl2 sl3 sl4 sl5 sl6 sl7 sl8 sl9 sl10 sl11 sl12 sl13 sl14 sl15 sl16 : Array (Option Value)} {oc0 kV0 dc0 pm0 cd0 ct0 oc1 kV1 dc1 pm1 cd1 ct1 oc2 kV2 dc2 pm2 cd2 ct2 oc3 kV3 dc3 pm3 cd3 ct3 oc4 kV4 dc4 pm4 cd4 ct4 oc5 kV5 dc5 pm5 cd5 ct5 oc6 kV6 dc6 pm6 cd6 ct6 oc7 kV7 dc7 pm7 cd7 ct7 oc8 kV8 dc8 pm8 cd8 ct8 oc9 kV9 dc9 pm9 cd9 ct9 oc10 kV10 dc10 pm10 cd10 ct10 oc11 kV11 dc11 pm11 cd11 ct11 oc12 kV12 dc12 pm12 cd12 ct12 oc13 kV13 dc13 pm13 cd13 ct13 oc14 kV14 dc14 pm14 cd14 ct14 oc15 kV15 dc15 pm15 cd15 ct15 oc16 kV16 dc16 pm16 cd16 ct16 : Value} {t0 t1 t2 : Tok} 
    (a0 : PySem.W.nsIn K mainGlobals "is_access_to" = some (some (.ref f0))) (l0 : K.lookup f0 = some ⟨oc0, od0, .func (PySem.W.fnOf "is_access_to" "is_access_to" (defArgs s_is_access_to) (defBody s_is_access_to) (defScope s_is_access_to) .none kV0 dc0 pm0 an0 cd0 ct0), sl0⟩) (c0 : PySem.W.codeIn K cd0 "is_access_to" = true) (k0 : PySem.W.keepIn K (.ref f0) = true)
    (a1 : PySem.W.nsIn K mainGlobals "does_store" = some (some (.ref f1))) (l1 : K.lookup f1 = some ⟨oc1, od1, .func (PySem.W.fnOf "does_store" "does_store" (defArgs s_does_store) (defBody s_does_store) (defScope s_does_store) .none kV1 dc1 pm1 an1 cd1 ct1), sl1⟩) (c1 : PySem.W.codeIn K cd1 "does_store" = true) (k1 : PySem.W.keepIn K (.ref f1) = true)
    (a2 : PySem.W.nsIn K mainGlobals "variables_of" = some (some (.ref f2))) (l2 : K.lookup f2 = some ⟨oc2, od2, .func (PySem.W.fnOf "variables_of" "variables_of" (defArgs s_variables_of) (defBody s_variables_of) (defScope s_variables_of) .none kV2 dc2 pm2 an2 cd2 ct2), sl2⟩) (c2 : PySem.W.codeIn K cd2 "variables_of" = true) (k2 : PySem.W.keepIn K (.ref f2) = true)
    (a3 : PySem.W.nsIn K mainGlobals "instruction_at" = some (some (.ref f3))) (l3 : K.lookup f3 = some ⟨oc3, od3, .func (PySem.W.fnOf "instruction_at" "instruction_at" (defArgs s_instruction_at) (defBody s_instruction_at) (defScope s_instruction_at) .none kV3 dc3 pm3 an3 cd3 ct3), sl3⟩) (c3 : PySem.W.codeIn K cd3 "instruction_at" = true) (k3 : PySem.W.keepIn K (.ref f3) = true)
    (a4 : PySem.W.nsIn K mainGlobals "accesses" = some (some (.ref f4))) (l4 : K.lookup f4 = some ⟨oc4, od4, .func (PySem.W.fnOf "accesses" "accesses" (defArgs s_accesses) (defBody s_accesses) (defScope s_accesses) .none kV4 dc4 pm4 an4 cd4 ct4), sl4⟩) (c4 : PySem.W.codeIn K cd4 "accesses" = true) (k4 : PySem.W.keepIn K (.ref f4) = true)
    (a5 : PySem.W.nsIn K mainGlobals "meets" = some (some (.ref f5))) (l5 : K.lookup f5 = some ⟨oc5, od5, .func (PySem.W.fnOf "meets" "meets" (defArgs s_meets) (defBody s_meets) (defScope s_meets) .none kV5 dc5 pm5 an5 cd5 ct5), sl5⟩) (c5 : PySem.W.codeIn K cd5 "meets" = true) (k5 : PySem.W.keepIn K (.ref f5) = true)
    (a6 : PySem.W.nsIn K mainGlobals "_law_urn" = some (some (.ref f6))) (l6 : K.lookup f6 = some ⟨oc6, od6, .func (PySem.W.fnOf "_law_urn" "_law_urn" (defArgs s__law_urn) (defBody s__law_urn) (defScope s__law_urn) .none kV6 dc6 pm6 an6 cd6 ct6), sl6⟩) (c6 : PySem.W.codeIn K cd6 "_law_urn" = true) (k6 : PySem.W.keepIn K (.ref f6) = true)
    (a7 : PySem.W.nsIn K mainGlobals "_law_take" = some (some (.ref f7))) (l7 : K.lookup f7 = some ⟨oc7, od7, .func (PySem.W.fnOf "_law_take" "_law_take" (defArgs s__law_take) (defBody s__law_take) (defScope s__law_take) .none kV7 dc7 pm7 an7 cd7 ct7), sl7⟩) (c7 : PySem.W.codeIn K cd7 "_law_take" = true) (k7 : PySem.W.keepIn K (.ref f7) = true)
    (a8 : PySem.W.nsIn K mainGlobals "_law_of" = some (some (.ref f8))) (l8 : K.lookup f8 = some ⟨oc8, od8, .func (PySem.W.fnOf "_law_of" "_law_of" (defArgs s__law_of) (defBody s__law_of) (defScope s__law_of) .none kV8 dc8 pm8 an8 cd8 ct8), sl8⟩) (c8 : PySem.W.codeIn K cd8 "_law_of" = true) (k8 : PySem.W.keepIn K (.ref f8) = true)
    (a9 : PySem.W.nsIn K mainGlobals "_law_names" = some (some (.ref f9))) (l9 : K.lookup f9 = some ⟨oc9, od9, .func (PySem.W.fnOf "_law_names" "_law_names" (defArgs s__law_names) (defBody s__law_names) (defScope s__law_names) .none kV9 dc9 pm9 an9 cd9 ct9), sl9⟩) (c9 : PySem.W.codeIn K cd9 "_law_names" = true) (k9 : PySem.W.keepIn K (.ref f9) = true)
    (a10 : PySem.W.nsIn K mainGlobals "_law_instruction" = some (some (.ref f10))) (l10 : K.lookup f10 = some ⟨oc10, od10, .func (PySem.W.fnOf "_law_instruction" "_law_instruction" (defArgs s__law_instruction) (defBody s__law_instruction) (defScope s__law_instruction) .none kV10 dc10 pm10 an10 cd10 ct10), sl10⟩) (c10 : PySem.W.codeIn K cd10 "_law_instruction" = true) (k10 : PySem.W.keepIn K (.ref f10) = true)
    (a11 : PySem.W.nsIn K mainGlobals "_law_plan" = some (some (.ref f11))) (l11 : K.lookup f11 = some ⟨oc11, od11, .func (PySem.W.fnOf "_law_plan" "_law_plan" (defArgs s__law_plan) (defBody s__law_plan) (defScope s__law_plan) .none kV11 dc11 pm11 an11 cd11 ct11), sl11⟩) (c11 : PySem.W.codeIn K cd11 "_law_plan" = true) (k11 : PySem.W.keepIn K (.ref f11) = true)
    (a12 : PySem.W.nsIn K mainGlobals "_law_near" = some (some (.ref f12))) (l12 : K.lookup f12 = some ⟨oc12, od12, .func (PySem.W.fnOf "_law_near" "_law_near" (defArgs s__law_near) (defBody s__law_near) (defScope s__law_near) .none kV12 dc12 pm12 an12 cd12 ct12), sl12⟩) (c12 : PySem.W.codeIn K cd12 "_law_near" = true) (k12 : PySem.W.keepIn K (.ref f12) = true)
    (a13 : PySem.W.nsIn K mainGlobals "_law_do_meet" = some (some (.ref f13))) (l13 : K.lookup f13 = some ⟨oc13, od13, .func (PySem.W.fnOf "_law_do_meet" "_law_do_meet" (defArgs s__law_do_meet) (defBody s__law_do_meet) (defScope s__law_do_meet) .none kV13 dc13 pm13 an13 cd13 ct13), sl13⟩) (c13 : PySem.W.codeIn K cd13 "_law_do_meet" = true) (k13 : PySem.W.keepIn K (.ref f13) = true)
    (a14 : PySem.W.nsIn K mainGlobals "_law_plan_right" = some (some (.ref f14))) (l14 : K.lookup f14 = some ⟨oc14, od14, .func (PySem.W.fnOf "_law_plan_right" "_law_plan_right" (defArgs s__law_plan_right) (defBody s__law_plan_right) (defScope s__law_plan_right) .none kV14 dc14 pm14 an14 cd14 ct14), sl14⟩) (c14 : PySem.W.codeIn K cd14 "_law_plan_right" = true) (k14 : PySem.W.keepIn K (.ref f14) = true)
    (a15 : PySem.W.nsIn K mainGlobals "_law_right" = some (some (.ref f15))) (l15 : K.lookup f15 = some ⟨oc15, od15, .func (PySem.W.fnOf "_law_right" "_law_right" (defArgs s__law_right) (defBody s__law_right) (defScope s__law_right) .none kV15 dc15 pm15 an15 cd15 ct15), sl15⟩) (c15 : PySem.W.codeIn K cd15 "_law_right" = true) (k15 : PySem.W.keepIn K (.ref f15) = true)
    (a16 : PySem.W.nsIn K mainGlobals "law" = some (some (.ref f16))) (l16 : K.lookup f16 = some ⟨oc16, od16, .func (PySem.W.fnOf "law" "law" (defArgs s_law) (defBody s_law) (defScope s_law) .none kV16 dc16 pm16 an16 cd16 ct16), sl16⟩) (c16 : PySem.W.codeIn K cd16 "law" = true) (k16 : PySem.W.keepIn K (.ref f16) = true)
    (m0 : PySem.W.nsIn K mainGlobals "FENCE" = some (some (.str "fence" t0)))
    (m1 : PySem.W.nsIn K mainGlobals "SWAP" = some (some (.str "swap" t1)))
    (m2 : PySem.W.nsIn K mainGlobals "STORE" = some (some (.str "store" t2)))
    (z0 : PySem.W.nsIn K mainGlobals "tuple" = some none)
    (z1 : PySem.W.nsIn K mainGlobals "sorted" = some none)
    (z2 : PySem.W.nsIn K mainGlobals "enumerate" = some none)
    (z3 : PySem.W.nsIn K mainGlobals "abs" = some none)
    (z4 : PySem.W.nsIn K mainGlobals "int" = some none)
    (z5 : PySem.W.nsIn K mainGlobals "len" = some none)
    (z6 : PySem.W.nsIn K mainGlobals "range" = some none)
    (z7 : PySem.W.nsIn K mainGlobals "list" = some none)
    (z8 : PySem.W.nsIn K mainGlobals "repr" = some none)
    (z9 : PySem.W.nsIn K mainGlobals "zip" = some none)
    (z10 : PySem.W.nsIn K mainGlobals "set" = some none)
    (z11 : PySem.W.nsIn K mainGlobals "all" = some none)
    (z12 : PySem.W.nsIn K mainGlobals "max" = some none)
    (z13 : PySem.W.nsIn K mainGlobals "min" = some none) : TopOk P K mg pg := by
  have F0 := fun_mk (st := s_is_access_to) l0 c0 k0
  have F1 := fun_mk (st := s_does_store) l1 c1 k1
  have F2 := fun_mk (st := s_variables_of) l2 c2 k2
  have F3 := fun_mk (st := s_instruction_at) l3 c3 k3
  have F4 := fun_mk (st := s_accesses) l4 c4 k4
  have F5 := fun_mk (st := s_meets) l5 c5 k5
  have F6 := fun_mk (st := s__law_urn) l6 c6 k6
  have F7 := fun_mk (st := s__law_take) l7 c7 k7
  have F8 := fun_mk (st := s__law_of) l8 c8 k8
  have F9 := fun_mk (st := s__law_names) l9 c9 k9
  have F10 := fun_mk (st := s__law_instruction) l10 c10 k10
  have F11 := fun_mk (st := s__law_plan) l11 c11 k11
  have F12 := fun_mk (st := s__law_near) l12 c12 k12
  have F13 := fun_mk (st := s__law_do_meet) l13 c13 k13
  have F14 := fun_mk (st := s__law_plan_right) l14 c14 k14
  have F15 := fun_mk (st := s__law_right) l15 c15 k15
  have F16 := fun_mk (st := s_law) l16 c16 k16
  refine ⟨?_, ?_, ?_, ?_⟩
  · exact (List.forall_mem_cons.mpr ⟨⟨_, _, F0, PySem.W.mg_of X G a0, (List.forall_mem_cons.mpr ⟨bd_is_access_to_0, (fun _ h => by cases h)⟩)⟩, (List.forall_mem_cons.mpr ⟨⟨_, _, F1, PySem.W.mg_of X G a1, (List.forall_mem_cons.mpr ⟨bd_does_store_0, (fun _ h => by cases h)⟩)⟩, (List.forall_mem_cons.mpr ⟨⟨_, _, F2, PySem.W.mg_of X G a2, (List.forall_mem_cons.mpr ⟨bd_variables_of_0, (List.forall_mem_cons.mpr ⟨bd_variables_of_1, (fun _ h => by cases h)⟩)⟩)⟩, (List.forall_mem_cons.mpr ⟨⟨_, _, F3, PySem.W.mg_of X G a3, (List.forall_mem_cons.mpr ⟨bd_instruction_at_0, (fun _ h => by cases h)⟩)⟩, (List.forall_mem_cons.mpr ⟨⟨_, _, F4, PySem.W.mg_of X G a4, (List.forall_mem_cons.mpr ⟨bd_accesses_0, (List.forall_mem_cons.mpr ⟨bd_accesses_1, (fun _ h => by cases h)⟩)⟩)⟩, (List.forall_mem_cons.mpr ⟨⟨_, _, F5, PySem.W.mg_of X G a5, (List.forall_mem_cons.mpr ⟨bd_meets_0, (List.forall_mem_cons.mpr ⟨bd_meets_1, (fun _ h => by cases h)⟩)⟩)⟩, (List.forall_mem_cons.mpr ⟨⟨_, _, F6, PySem.W.mg_of X G a6, (List.forall_mem_cons.mpr ⟨bd__law_urn_0, (fun _ h => by cases h)⟩)⟩, (List.forall_mem_cons.mpr ⟨⟨_, _, F7, PySem.W.mg_of X G a7, (List.forall_mem_cons.mpr ⟨bd__law_take_0, (fun _ h => by cases h)⟩)⟩, (List.forall_mem_cons.mpr ⟨⟨_, _, F8, PySem.W.mg_of X G a8, (List.forall_mem_cons.mpr ⟨bd__law_of_0, (fun _ h => by cases h)⟩)⟩, (List.forall_mem_cons.mpr ⟨⟨_, _, F9, PySem.W.mg_of X G a9, (List.forall_mem_cons.mpr ⟨bd__law_names_0, (fun _ h => by cases h)⟩)⟩, (List.forall_mem_cons.mpr ⟨⟨_, _, F10, PySem.W.mg_of X G a10, (List.forall_mem_cons.mpr ⟨bd__law_instruction_0, (fun _ h => by cases h)⟩)⟩, (List.forall_mem_cons.mpr ⟨⟨_, _, F11, PySem.W.mg_of X G a11, (List.forall_mem_cons.mpr ⟨bd__law_plan_0, (fun _ h => by cases h)⟩)⟩, (List.forall_mem_cons.mpr ⟨⟨_, _, F12, PySem.W.mg_of X G a12, (List.forall_mem_cons.mpr ⟨bd__law_near_0, (fun _ h => by cases h)⟩)⟩, (List.forall_mem_cons.mpr ⟨⟨_, _, F13, PySem.W.mg_of X G a13, (List.forall_mem_cons.mpr ⟨bd__law_do_meet_0, (fun _ h => by cases h)⟩)⟩, (List.forall_mem_cons.mpr ⟨⟨_, _, F14, PySem.W.mg_of X G a14, (List.forall_mem_cons.mpr ⟨bd__law_plan_right_0, (fun _ h => by cases h)⟩)⟩, (List.forall_mem_cons.mpr ⟨⟨_, _, F15, PySem.W.mg_of X G a15, (List.forall_mem_cons.mpr ⟨bd__law_right_0, (fun _ h => by cases h)⟩)⟩, (List.forall_mem_cons.mpr ⟨⟨_, _, F16, PySem.W.mg_of X G a16, (List.forall_mem_cons.mpr ⟨bd_law_0, (fun _ h => by cases h)⟩)⟩, (fun _ h => by cases h)⟩)⟩)⟩)⟩)⟩)⟩)⟩)⟩)⟩)⟩)⟩)⟩)⟩)⟩)⟩)⟩)⟩)
  · exact (List.forall_mem_cons.mpr ⟨⟨_, .str "fence", PySem.W.mg_of X G m0, ⟨_, rfl⟩, fun _ _ _ => .str _⟩, (List.forall_mem_cons.mpr ⟨⟨_, .str "swap", PySem.W.mg_of X G m1, ⟨_, rfl⟩, fun _ _ _ => .str _⟩, (List.forall_mem_cons.mpr ⟨⟨_, .str "store", PySem.W.mg_of X G m2, ⟨_, rfl⟩, fun _ _ _ => .str _⟩, (fun _ h => by cases h)⟩)⟩)⟩)
  · exact (List.forall_mem_cons.mpr ⟨PySem.W.mg_none_of X G z0, (List.forall_mem_cons.mpr ⟨PySem.W.mg_none_of X G z1, (List.forall_mem_cons.mpr ⟨PySem.W.mg_none_of X G z2, (List.forall_mem_cons.mpr ⟨PySem.W.mg_none_of X G z3, (List.forall_mem_cons.mpr ⟨PySem.W.mg_none_of X G z4, (List.forall_mem_cons.mpr ⟨PySem.W.mg_none_of X G z5, (List.forall_mem_cons.mpr ⟨PySem.W.mg_none_of X G z6, (List.forall_mem_cons.mpr ⟨PySem.W.mg_none_of X G z7, (List.forall_mem_cons.mpr ⟨PySem.W.mg_none_of X G z8, (List.forall_mem_cons.mpr ⟨PySem.W.mg_none_of X G z9, (List.forall_mem_cons.mpr ⟨PySem.W.mg_none_of X G z10, (List.forall_mem_cons.mpr ⟨PySem.W.mg_none_of X G z11, (List.forall_mem_cons.mpr ⟨PySem.W.mg_none_of X G z12, (List.forall_mem_cons.mpr ⟨PySem.W.mg_none_of X G z13, (fun _ h => by cases h)⟩)⟩)⟩)⟩)⟩)⟩)⟩)⟩)⟩)⟩)⟩)⟩)⟩)⟩)
  · exact (fun _ h => by cases h)
end Px.k03
end
section
set_option linter.all false
set_option maxRecDepth 100000
namespace Px.k03
open PySem Px Px.sh
/-- the names of this law -/
def pool2 : List Str := pool ++ (["a", "b", "cd", "efgh"] : List Str)
theorem pool2_fit : ∀ x ∈ pool2, varB x = true := by decide +kernel
theorem pool2_V : ∀ x ∈ pool2, V 0 0 6 (.str x) := fun x hx => v_of (d := 0) (w := 6) (ts := pool2.map .str) (by decide +kernel) _ (List.mem_map.mpr ⟨x, hx, rfl⟩)
theorem words_V2 : ∀ x ∈ words, V 0 0 6 (.str x) := fun x hx => v_of (d := 0) (w := 6) (ts := words.map .str) (by decide +kernel) _ (List.mem_map.mpr ⟨x, hx, rfl⟩)
theorem words_fit : ∀ x ∈ words, wordB x = true := by decide +kernel
structure P3 (p : List (List In)) : Prop where
  ok : ∀ r ∈ p, ∀ i ∈ r, i.ok pool2
  row : ∀ r ∈ p, r.length ≤ 16
  len : p.length ≤ 6
theorem PlanOk.p3 {a b c : Nat} {p : List (List In)} (h : PlanOk a b c p) (ha : a ≤ 6) (hb : b ≤ 16) : P3 p := by
  obtain ⟨N, _, _, hN, hi⟩ := h.ex
  refine ⟨fun r hr i hir => ?_, fun r hr => Nat.le_trans (h.row r hr) hb, Nat.le_trans h.most ha⟩
  have := hi r hr i hir
  cases i with
  | fence => trivial
  | acc w x => exact ⟨this.1, show x ∈ pool ++ _ from List.mem_append_left _ (hN x this.2)⟩
theorem ok_fit {i : In} (h : i.ok pool2) : i.fit := by
  cases i with
  | fence => trivial
  | acc w x => exact ⟨words_fit w h.1, pool2_fit x h.2⟩
theorem in_V3 {i : In} (h : i.ok pool2) : V 0 1 14 i.t := by
  cases i with
  | fence => exact v_of (d := 1) (w := 14) (ts := [.tup [.str "fence"]]) (by decide +kernel) _ (by simp [In.t])
  | acc w x => exact (Vs.tup (Vs.cons (words_V2 w h.1) (Vs.cons (pool2_V x h.2) (Vs.nil (w := 0))))).mono (by omega) (by omega) (by omega)
theorem row_V3 {r : List In} (h : ∀ i ∈ r, i.ok pool2) (hl : r.length ≤ 16) : V 0 2 240 (rowT r) := (Vs.tup (vs_map In.t fun i hi => in_V3 (h i hi))).mono (by omega) (by omega) (by omega)
theorem plan_V3 {p : List (List In)} (h : P3 p) : V 0 3 1500 (planT p) := (Vs.tup (vs_map rowT fun r hr => row_V3 (h.ok r hr) (h.row r hr))).mono (by omega) (by omega) (by have := h.len; omega)
/-! ### the accesses -/
/-- an access: its thread, its place, itself -/
structure Ac where
  t : Nat
  a : Nat
  w : Str
  x : Str
def Ac.sp (q : Ac) : T := .tup [.int q.t, .int q.a]
def Ac.it (q : Ac) : T := .tup [.str q.w, .str q.x]
def acI (t a : Nat) : In → List Ac
  | .fence => []
  | .acc w x => [⟨t, a, w, x⟩]
def acR (t : Nat) (r : List In) : Nat → List Ac
  | 0 => []
  | k + 1 => acR t r k ++ (match r[k]? with | some i => acI t k i | none => [])
def acP (p : List (List In)) : Nat → List Ac
  | 0 => []
  | k + 1 => acP p k ++ (match p[k]? with | some r => acR k r r.length | none => [])
def acs (p : List (List In)) : List Ac := acP p p.length
theorem acR_len {t : Nat} {r : List In} : ∀ k, (acR t r k).length ≤ k
  | 0 => Nat.le_refl _
  | k + 1 => by
    have ih := acR_len (t := t) (r := r) k
    show (acR t r k ++ _).length ≤ _
    rw [List.length_append]
    cases q : r[k]? with
    | none => simp; omega
    | some i => cases i <;> simp [acI] <;> omega
theorem acP_len {p : List (List In)} (h : ∀ r ∈ p, r.length ≤ 16) : ∀ k, (acP p k).length ≤ 16 * k
  | 0 => Nat.le_refl _
  | k + 1 => by
    have ih := acP_len h k
    show (acP p k ++ _).length ≤ _
    rw [List.length_append]
    cases q : p[k]? with
    | none => simp; omega
    | some r =>
      have h1 := acR_len (t := k) (r := r) r.length
      have h2 := h r (List.mem_of_getElem? q)
      show _ + (acR k r r.length).length ≤ _
      omega
theorem acR_mem {t : Nat} {r : List In} {q : Ac} : ∀ {k}, q ∈ acR t r k → q.t = t ∧ r[q.a]? = some (.acc q.w q.x)
  | 0, h => by cases h
  | k + 1, h => by
    rcases List.mem_append.mp h with h | h
    · exact acR_mem h
    · cases e : r[k]? with
      | none => rw [e] at h; cases h
      | some i =>
        rw [e] at h
        cases i with
        | fence => cases h
        | acc w x =>
          have := List.mem_singleton.mp h
          subst this
          exact ⟨rfl, e⟩
theorem acP_mem {p : List (List In)} {q : Ac} : ∀ {k}, q ∈ acP p k → ∃ r, p[q.t]? = some r ∧ r[q.a]? = some (.acc q.w q.x)
  | 0, h => by cases h
  | k + 1, h => by
    rcases List.mem_append.mp h with h | h
    · exact acP_mem h
    · cases e : p[k]? with
      | none => rw [e] at h; cases h
      | some r =>
        rw [e] at h
        obtain ⟨h1, h2⟩ := acR_mem h
        exact ⟨r, by rw [h1]; exact e, h2⟩
theorem acR_nm {t : Nat} {r : List In} : ∀ k, (acR t r k).map Ac.x = (r.take k).filterMap In.nm
  | 0 => by simp [acR]
  | k + 1 => by
    show (acR t r k ++ _).map Ac.x = _
    rw [List.map_append, acR_nm k, List.take_add_one, List.filterMap_append]
    congr 1
    cases e : r[k]? with
    | none => rfl
    | some i => cases i <;> rfl
theorem acP_nm {p : List (List In)} : ∀ k, (acP p k).map Ac.x = names (p.take k)
  | 0 => by simp [acP, names]
  | k + 1 => by
    show (acP p k ++ _).map Ac.x = _
    unfold names
    rw [List.map_append, acP_nm k, List.take_add_one, List.flatMap_append]
    unfold names
    congr 1
    cases e : p[k]? with
    | none => rfl
    | some r =>
      show (acR k r r.length).map Ac.x = _
      rw [acR_nm, List.take_length]
      simp
theorem acs_nm {p : List (List In)} : (acs p).map Ac.x = names p := by
  unfold acs
  rw [acP_nm, List.take_length]
end Px.k03
end
section
set_option linter.all false
set_option maxRecDepth 100000
namespace Px.k03
open PySem Px Px.sh
variable {W n : Nat} {S : Sto} {P : T → Sto → Prop}
/-! ### one instruction -/
theorem word_flat : ∀ x ∈ words, (T.str x).flat = true := by decide +kernel
theorem pool2_flat : ∀ x ∈ pool2, (T.str x).flat = true := by decide +kernel
theorem st_flat : ∀ y ∈ ([("store" : Str), "swap"] : List Str), (T.str y).flat = true := by decide +kernel
theorem st_word : ∀ w ∈ words, decide (w ∈ ([("store" : Str), "swap"] : List Str)) = decide (w ≠ "load") := by decide +kernel
theorem t_does_store {q : Ac} (hw : q.w ∈ words) (h : P (.bl (decide (q.w ≠ "load"))) S) : Run (callN tab W (n + 1) "does_store" [q.it] [] S) P := by
  refine run_call (fn := fn_does_store) (as := [q.it]) (by rfl) (by rfl) ?_
  show Run (execs _ b_does_store [some q.it] S) (Fin false S P)
  unfold b_does_store
  refine run_ret ?_
  rw [rv_cmp, rv_idx, rv_loc]
  refine ⟨_, rfl, ?_⟩
  rw [rv_con]
  refine ⟨_, (by rfl : idxT (vw S q.it) (.int 0) = some (.str q.w)), ?_⟩
  refine run_v (.tup [.str "store", .str "swap"]) (by simp [lim]) ?_
  refine ⟨_, in_strs (ys := ["store", "swap"]) (word_flat _ hw) st_flat, ?_⟩
  rw [st_word _ hw, fin_rt', gc_bl]
  exact h
theorem at_plan {p : List (List In)} {r : List In} {t : Nat} (h : p[t]? = some r) : idxT (planT p) (.int t) = some (rowT r) := by
  show L2.atI (p.map rowT) (t : Int) = _
  exact at_nat (by rw [List.getElem?_map, h]; rfl)
theorem at_row {r : List In} {a : Nat} {i : In} (h : r[a]? = some i) : idxT (rowT r) (.int a) = some i.t := by
  show L2.atI (r.map In.t) (a : Int) = _
  exact at_nat (by rw [List.getElem?_map, h]; rfl)
theorem t_instruction_at {p : List (List In)} {r : List In} {q : Ac} (h1 : p[q.t]? = some r) (h2 : r[q.a]? = some (.acc q.w q.x)) (h : P q.it S) : Run (callN tab W (n + 1) "instruction_at" [planT p, q.sp] [] S) P := by
  refine run_call (fn := fn_instruction_at) (as := [planT p, q.sp]) (by rfl) (by rfl) ?_
  show Run (execs _ b_instruction_at [some (planT p), some q.sp, none, none] S) (Fin false S P)
  unfold b_instruction_at
  rw [rxs_cons, rx_asg, rv_loc]
  refine ⟨_, rfl, _, rfl, ?_⟩
  rw [nx_nx]
  show Run (execs _ _ [some (planT p), some q.sp, some (.int q.t), some (.int q.a)] S) _
  refine run_ret ?_
  rw [rv_idx, rv_idx, rv_loc]
  refine ⟨_, rfl, ?_⟩
  rw [rv_loc]
  refine ⟨_, rfl, _, (by rw [show vw S (planT p) = planT p from rfl]; exact at_plan h1), ?_⟩
  rw [rv_loc]
  refine ⟨_, rfl, _, (by rw [show vw S (rowT r) = rowT r from rfl]; exact at_row h2), ?_⟩
  rw [fin_rt']
  exact gc_same (in_bel (.acc q.w q.x)) h
/-- whether two accesses meet -/
def mt (a b : Ac) : Bool := decide (a.x = b.x) && (decide (a.w ≠ "load") || decide (b.w ≠ "load"))
theorem vl_x {C : Cfg} {ρ : Env} {i : Nat} {q : Ac} (h : ρ[i]? = some (some q.it)) : Vl C (.idx (.loc i) (.con (.int 1))) ρ S (.str q.x) := Vl.idx (Vl.loc h) Vl.con (by rfl)
theorem vl_w {C : Cfg} {ρ : Env} {i : Nat} {q : Ac} (h : ρ[i]? = some (some q.it)) : Vl C (.idx (.loc i) (.con (.int 0))) ρ S (.str q.w) := Vl.idx (Vl.loc h) Vl.con (by rfl)
theorem t_meets {p : List (List In)} {a b : Ac} {r r2 : List In} (vs : List T) (kv : List (Str × T)) (hb : bindA fn_meets.ps vs kv = some [planT p, a.sp, b.sp]) (a1 : p[a.t]? = some r) (a2 : r[a.a]? = some (.acc a.w a.x)) (b1 : p[b.t]? = some r2) (b2 : r2[b.a]? = some (.acc b.w b.x))
    (wa : a.w ∈ words) (wb : b.w ∈ words) (h : P (.bl (mt a b)) S) : Run (callN tab W (n + 2) "meets" vs kv S) P := by
  refine run_call (fn := fn_meets) (as := [planT p, a.sp, b.sp]) (by rfl) hb ?_
  show Run (execs _ b_meets [some (planT p), some a.sp, some b.sp, none, none] S) (Fin false S P)
  unfold b_meets
  refine run_par2 ?_
  rw [rv_call, rs_cons, rv_loc]
  refine ⟨_, rfl, ?_⟩
  rw [rs_cons, rv_loc]
  refine ⟨_, rfl, ?_⟩
  rw [rs_nil, rs_nil]
  refine t_instruction_at a1 a2 ?_
  rw [rv_call, rs_cons, rv_loc]
  refine ⟨_, rfl, ?_⟩
  rw [rs_cons, rv_loc]
  refine ⟨_, rfl, ?_⟩
  rw [rs_nil, rs_nil]
  refine t_instruction_at b1 b2 ?_
  show Run (execs _ _ [some (planT p), some a.sp, some b.sp, some a.it, some b.it] S) _
  refine run_ret (Is.run (b := mt a b) ?_ ?_)
  · refine Is.and (Is.cmp (vl_x rfl) (vl_x rfl) eq_str) fun _ => Is.or (Is.call1 (Vl.loc rfl) fun Q hq => t_does_store wa hq) fun _ => Is.call1 (Vl.loc rfl) fun Q hq => t_does_store wb hq
  · rw [fin_rt', gc_bl]
    exact h
theorem t_do_meet {a b : Ac} (h : P (.bl (mt a b)) S) : Run (callN tab W (n + 1) "_law_do_meet" [a.it, b.it] [] S) P := by
  refine run_call (fn := fn__law_do_meet) (as := [a.it, b.it]) (by rfl) (by rfl) ?_
  show Run (execs _ b__law_do_meet [some a.it, some b.it] S) (Fin false S P)
  unfold b__law_do_meet
  refine run_ret (Is.run (b := mt a b) ?_ ?_)
  · refine Is.and (Is.cmp (vl_x rfl) (vl_x rfl) eq_str) fun _ => Is.or ((Is.cmp (vl_w rfl) Vl.con ne_str).of_eq ?_) fun _ => (Is.cmp (vl_w rfl) Vl.con ne_str).of_eq ?_
    · simp
    · simp
  · rw [fin_rt', gc_bl]
    exact h
/-! ### accesses -/
theorem pairN_at {α : Type} {f : α → T} {xs : List α} {j : Nat} {x : T} (h : (pairN (xs.map f))[j]? = some x) : ∃ y, xs[j]? = some y ∧ x = .tup [.int j, f y] := by
  unfold pairN at h
  rw [List.getElem?_map, List.getElem?_zipIdx, Nat.zero_add, List.getElem?_map] at h
  cases q : xs[j]? with
  | none => rw [q] at h; cases h
  | some r => rw [q] at h; cases h; exact ⟨r, rfl, rfl⟩
theorem sp_belL {k : Nat} : ∀ xs : List Ac, T.belL k (xs.map Ac.sp) = true
  | [] => rfl
  | x :: xs => by
    show (x.sp.bel k && T.belL k (xs.map Ac.sp)) = true
    rw [sp_belL xs]
    rfl
theorem t_accesses {p : List (List In)} (vs : List T) (kv : List (Str × T)) (hb : bindA fn_accesses.ps vs kv = some [planT p]) (hp : P3 p) (h : P (.tup ((acs p).map Ac.sp)) S) : Run (callN tab W (n + 2) "accesses" vs kv S) P := by
  refine run_call (fn := fn_accesses) (as := [planT p]) (by rfl) hb ?_
  show Run (execs _ b_accesses [some (planT p), none, none, none, none, none] S) (Fin false S P)
  unfold b_accesses
  refine run_asg ?_
  rw [rv_new, rv_lst, rs_nil]
  refine ⟨by simp [lim], ?_⟩
  rw [rv_newv]
  refine run_for ?_
  rw [ri_enum, rv_loc]
  refine ⟨_, rfl, _, rfl, ?_⟩
  refine run_forL (fun k ρ S' => ∃ a b, ρ = [some (planT p), some (.loc S.length), a, b, none, none] ∧ S' = S ++ [.lst ((acP p k).map Ac.sp)]) _ 0 _ _ ⟨none, none, rfl, rfl⟩ ?_ ?_
  · rintro t x ρ S' hx ⟨a, b, rfl, rfl⟩
    rw [Nat.zero_add]
    obtain ⟨r, hrt, rfl⟩ := pairN_at hx
    have hrm := List.mem_of_getElem? hrt
    have hrl := hp.row r hrm
    rw [rv_bind, rv_opt]
    refine ⟨_, rfl, ?_⟩
    show Run (execs _ _ [some (planT p), some (.loc S.length), some (.int t), some (rowT r), none, none] _) _
    rw [rxs_cons, rx_exp]
    refine run_mthL (l := S.length) ?_
    rw [rv_loc]
    refine ⟨_, rfl, rfl, ⟨_, at_new⟩, ?_⟩
    rw [rs_cons, rv_comp, ri_enum, rv_loc]
    refine ⟨_, rfl, _, rfl, ?_⟩
    refine run_compL (fun j acc S1 => acc = (acR t r j).map Ac.sp ∧ S1 = S ++ [.lst ((acP p t).map Ac.sp)]) _ 0 _ _ ⟨rfl, rfl⟩ ?_ ?_
    · rintro j x acc S1 hx ⟨rfl, rfl⟩
      rw [Nat.zero_add]
      obtain ⟨i, hi, rfl⟩ := pairN_at hx
      rw [rv_bind, rv_opt]
      refine ⟨_, rfl, ?_⟩
      rw [rv_bind, rc_cons, rv_call, rs_cons, rv_loc]
      refine ⟨_, rfl, ?_⟩
      rw [rs_nil, rs_nil]
      refine t_is_access (tab := tab) (n := n) ?_
      refine ⟨_, rfl, ?_⟩
      cases i with
      | fence =>
        refine ⟨trivial, ?_, rfl⟩
        show (acR t r j).map Ac.sp = (acR t r j ++ (match r[j]? with | some i => acI t j i | none => [])).map Ac.sp
        rw [hi]
        simp [acI]
      | acc w x =>
        have hok := hp.ok r hrm _ (List.mem_of_getElem? hi)
        have e1 : (!(In.acc w x).isFe) = true := by
          have : w ≠ "fence" := by
            have := hok.1
            intro e
            subst e
            exact absurd this (by decide)
          simp [In.isFe, In.wd, this]
        rw [e1, if_pos rfl, rc_nil, if_pos rfl, rv_bind, rv_tup, rs_cons, rv_loc]
        refine ⟨_, rfl, ?_⟩
        rw [rs_cons, rv_loc]
        refine ⟨_, rfl, ?_⟩
        rw [rs_nil]
        refine ⟨by simp [lim], trivial, ?_, rfl⟩
        show (acR t r j).map Ac.sp ++ [_] = (acR t r j ++ (match r[j]? with | some i => acI t j i | none => [])).map Ac.sp
        rw [hi, List.map_append]
        rfl
    · rintro acc S1 ⟨rfl, rfl⟩
      have el : 0 + (pairN (r.map In.t)).length = r.length := by simp [pairN]
      have l1 := acR_len (t := t) (r := r) r.length
      have l2 := acP_len hp.row t
      have l3 : t < p.length := (List.getElem?_eq_some_iff.mp hrt).1
      have l4 := hp.len
      rw [el]
      refine ⟨by rw [List.length_map]; unfold lim; omega, ?_⟩
      rw [rs_nil]
      refine ⟨_, at_new, ?_⟩
      rw [mth_ext (by rw [List.length_map, List.length_map]; unfold lim; omega), rv_ok, nx_nx, rxs_nil, turn_nx]
      refine ⟨trivial, _, _, rfl, ?_⟩
      rw [set_new, ← List.map_append]
      show _ = S ++ [.lst ((acP p t ++ (match p[t]? with | some r => acR t r r.length | none => [])).map Ac.sp)]
      rw [hrt]
  · rintro ρ S' ⟨a, b, rfl, rfl⟩
    rw [nx_nx]
    have el : 0 + (pairN (p.map rowT)).length = p.length := by simp [pairN]
    rw [el]
    refine run_ret ?_
    rw [rv_bty, rs_cons, rv_loc]
    refine ⟨_, rfl, ?_⟩
    rw [rs_nil]
    refine ⟨_, by rw [List.map_cons, List.map_nil, vw0_loc at_new, bty_tupv], ?_⟩
    rw [fin_rt']
    exact gc_new (show T.belL _ _ = true from sp_belL _) h
end Px.k03
end
section
set_option linter.all false
set_option maxRecDepth 100000
namespace Px.k03
open PySem Px Px.sh
variable {W n : Nat} {S : Sto} {P : T → Sto → Prop}
/-! ### the law's own lists -/
def nx (q : Ac) : T := .str q.x
theorem at_a {o u : Ob} : (S ++ [o, u])[S.length]? = some o := by simp
theorem at_b {o u : Ob} : (S ++ [o, u])[S.length + 1]? = some u := by simp
theorem set_a {o u v : Ob} : (S ++ [o, u]).set S.length v = S ++ [v, u] := by simp
theorem set_b {o u v : Ob} : (S ++ [o, u]).set (S.length + 1) v = S ++ [o, v] := by simp
/-- the environment of _law_plan_right -/
def En (p : List (List In)) (m kept : T) (l : Nat) (a b c d : Option T) : Env := [some (planT p), some m, some kept, some (.loc l), some (.loc (l + 1)), a, b, c, d, none, none, none, none, none, none, none]
theorem loop_spots {p : List (List In)} {m kept : T} {C : Cfg} {ss : Sms} {Q : Fl × Env → Sto → Prop} (hp : P3 p) (h : ∀ a b c d, Run (execs C ss (En p m kept S.length a b c d) (S ++ [.lst ((acs p).map nx), .lst ((acs p).map Ac.sp)])) Q) :
    Run (execs C (.cons (.for (.tps [5, 6]) (.enum (.loc 0)) (.cons (.for (.tps [7, 8]) (.enum (.loc 6)) (.cons (.ife (.cmp .ne (.idx (.loc 8) (.con (.int 0))) (.con (.str "fence"))) (.cons (.exp (.mth (.loc 3) "append" (.cons (.idx (.loc 8) (.con (.int 1))) .nil)))
  (.cons (.exp (.mth (.loc 4) "append" (.cons (.tup (.cons (.loc 5) (.cons (.loc 7) .nil))) .nil)))
  .nil)) .nil)
  .nil))
  .nil)) ss) (En p m kept S.length none none none none) (S ++ [.lst [], .lst []])) Q := by
  refine run_for ?_
  rw [ri_enum, rv_loc]
  refine ⟨_, rfl, _, rfl, ?_⟩
  refine run_forL (fun k ρ S' => ∃ a b c d, ρ = En p m kept S.length a b c d ∧ S' = S ++ [.lst ((acP p k).map nx), .lst ((acP p k).map Ac.sp)]) _ 0 _ _ ⟨none, none, none, none, rfl, rfl⟩ ?_ ?_
  · rintro t x ρ S' hx ⟨a, b, c, d, rfl, rfl⟩
    rw [Nat.zero_add]
    obtain ⟨r, hrt, rfl⟩ := pairN_at hx
    have hrm := List.mem_of_getElem? hrt
    have hrl := hp.row r hrm
    have l2 := acP_len hp.row t
    have l3 : t < p.length := (List.getElem?_eq_some_iff.mp hrt).1
    have l4 := hp.len
    rw [rv_bind, rv_opt]
    refine ⟨_, rfl, ?_⟩
    show Run (execs _ _ (En p m kept S.length (some (.int t)) (some (rowT r)) c d) _) _
    refine run_for ?_
    rw [ri_enum, rv_loc]
    refine ⟨_, rfl, _, rfl, ?_⟩
    refine run_forL (fun j ρ S' => ∃ c d, ρ = En p m kept S.length (some (.int t)) (some (rowT r)) c d ∧ S' = S ++ [.lst ((acP p t ++ acR t r j).map nx), .lst ((acP p t ++ acR t r j).map Ac.sp)]) _ 0 _ _ ⟨c, d, rfl, by simp [acR]⟩ ?_ ?_
    · rintro j x ρ S' hx ⟨c, d, rfl, rfl⟩
      rw [Nat.zero_add]
      obtain ⟨i, hi, rfl⟩ := pairN_at hx
      have l5 := acR_len (t := t) (r := r) j
      have l6 : j < r.length := (List.getElem?_eq_some_iff.mp hi).1
      rw [rv_bind, rv_opt]
      refine ⟨_, rfl, ?_⟩
      show Run (execs _ _ (En p m kept S.length (some (.int t)) (some (rowT r)) (some (.int j)) (some i.t)) _) _
      cases i with
      | fence =>
        refine run_ifB (x := false) (Is.cmp (x := .str "fence") (y := .str "fence") (Vl.idx (Vl.loc rfl) Vl.con (by rfl)) Vl.con (by rfl)) (fun z => by cases z) fun _ => ?_
        rw [rxs_nil, nx_nx, rxs_nil, turn_nx]
        refine ⟨trivial, _, _, rfl, ?_⟩
        show _ = S ++ [.lst ((acP p t ++ (acR t r j ++ (match r[j]? with | some i => acI t j i | none => []))).map nx), .lst ((acP p t ++ (acR t r j ++ (match r[j]? with | some i => acI t j i | none => []))).map Ac.sp)]
        rw [hi]
        simp [acI]
      | acc w x =>
        have hok := hp.ok r hrm _ (List.mem_of_getElem? hi)
        have hw : w ≠ "fence" := fun e => by
          have := hok.1
          subst e
          exact absurd this (by decide)
        refine run_ifB (x := true) ((Is.cmp (x := .str w) (y := .str "fence") (Vl.idx (Vl.loc rfl) Vl.con (by rfl)) Vl.con ne_str).of_eq (by simp [hw])) (fun _ => ?_) fun z => by cases z
        rw [rxs_cons, rx_exp]
        refine run_mthL (l := S.length) ?_
        rw [rv_loc]
        refine ⟨_, rfl, rfl, ⟨_, at_a⟩, ?_⟩
        rw [rs_cons]
        refine Vl.run (v := .str x) (Vl.idx (Vl.loc rfl) Vl.con (by rfl)) ?_
        rw [rs_nil]
        refine ⟨_, at_a, ?_⟩
        rw [mth_app (by rw [List.length_map, List.length_append]; unfold lim; omega), rv_ok, nx_nx, set_a]
        rw [rxs_cons, rx_exp]
        refine run_mthL (l := S.length + 1) ?_
        rw [rv_loc]
        refine ⟨_, rfl, rfl, ⟨_, at_b⟩, ?_⟩
        rw [rs_cons, rv_tup, rs_cons, rv_loc]
        refine ⟨_, rfl, ?_⟩
        rw [rs_cons, rv_loc]
        refine ⟨_, rfl, ?_⟩
        rw [rs_nil]
        refine ⟨by simp [lim], ?_⟩
        rw [rs_nil]
        refine ⟨_, at_b, ?_⟩
        rw [mth_app (by rw [List.length_map, List.length_append]; unfold lim; omega), rv_ok, nx_nx, set_b]
        rw [rxs_nil, nx_nx, rxs_nil, turn_nx]
        refine ⟨trivial, _, _, rfl, ?_⟩
        show _ = S ++ [.lst ((acP p t ++ (acR t r j ++ (match r[j]? with | some i => acI t j i | none => []))).map nx), .lst ((acP p t ++ (acR t r j ++ (match r[j]? with | some i => acI t j i | none => []))).map Ac.sp)]
        rw [hi]
        simp [acI, nx, Ac.sp]
    · rintro ρ S' ⟨c, d, rfl, rfl⟩
      have el : 0 + (pairN (r.map In.t)).length = r.length := by simp [pairN]
      rw [el, nx_nx, rxs_nil, turn_nx]
      refine ⟨trivial, _, _, _, _, rfl, ?_⟩
      show _ = S ++ [.lst ((acP p t ++ (match p[t]? with | some r => acR t r r.length | none => [])).map nx), .lst ((acP p t ++ (match p[t]? with | some r => acR t r r.length | none => [])).map Ac.sp)]
      rw [hrt]
  · rintro ρ S' ⟨a, b, c, d, rfl, rfl⟩
    rw [nx_nx]
    have el : 0 + (pairN (p.map rowT)).length = p.length := by simp [pairN]
    rw [el]
    exact h a b c d
end Px.k03
end
section
set_option linter.all false
set_option maxRecDepth 100000
namespace Px.k03
open PySem Px Px.sh
variable {W n : Nat} {S : Sto} {P : T → Sto → Prop}
/-! ### sizes -/
theorem acs_len {p : List (List In)} (h : P3 p) : (acs p).length ≤ 96 := by
  have h1 := acP_len h.row p.length
  have h2 := h.len
  show (acP p p.length).length ≤ 96
  omega
theorem ac_ok {p : List (List In)} (h : P3 p) {q : Ac} (hq : q ∈ acs p) : ∃ r, p[q.t]? = some r ∧ r[q.a]? = some (.acc q.w q.x) ∧ q.w ∈ words ∧ q.x ∈ pool2 ∧ q.t ≤ 6 ∧ q.a ≤ 16 := by
  obtain ⟨r, h1, h2⟩ := acP_mem hq
  have h3 := h.ok r (List.mem_of_getElem? h1) _ (List.mem_of_getElem? h2)
  have h4 := (List.getElem?_eq_some_iff.mp h1).1
  have h5 := (List.getElem?_eq_some_iff.mp h2).1
  have h6 := h.row r (List.mem_of_getElem? h1)
  have h7 := h.len
  exact ⟨r, h1, h2, h3.1, h3.2, by omega, by omega⟩
theorem sp_V {p : List (List In)} (h : P3 p) {q : Ac} (hq : q ∈ acs p) : V 0 1 50 q.sp := by
  obtain ⟨r, _, _, _, _, h1, h2⟩ := ac_ok h hq
  exact (Vs.tup (Vs.cons (small_V (m := q.t) (by omega)) (Vs.cons (small_V (m := q.a) (by omega)) (Vs.nil (w := 0))))).mono (by omega) (by omega) (by omega)
theorem names_len {p : List (List In)} (h : P3 p) : (names p).length ≤ 96 := by
  rw [← acs_nm, List.length_map]
  exact acs_len h
theorem nms_V {p : List (List In)} (h : P3 p) : V 0 1 700 (.tup ((sortU (names p)).map .str)) := by
  have hm : ∀ x ∈ sortU (names p), x ∈ pool2 := fun x hx => by
    rw [sortU_mem, ← acs_nm] at hx
    obtain ⟨q, hq, rfl⟩ := List.mem_map.mp hx
    obtain ⟨_, _, _, _, h1, _⟩ := ac_ok h hq
    exact h1
  have hl : (sortU (names p)).length ≤ 96 := by
    have h1 : (sortU (names p)).length = (addsK [] (names p)).length := (sortS_perm _).length_eq
    have h2 := addsK_len (ks := names p) (l := ([] : List Str))
    have h3 := names_len h
    rw [List.length_nil] at h2
    omega
  exact (Vs.tup (vs_map T.str fun x hx => pool2_V x (hm x hx))).mono (by omega) (by omega) (by rw [show (6 + 1) * (sortU (names p)).length = 7 * (sortU (names p)).length from rfl]; omega)
theorem sps_V {p : List (List In)} (h : P3 p) : V 0 2 5000 (.tup ((acs p).map Ac.sp)) :=
  (Vs.tup (vs_map Ac.sp fun q hq => sp_V h hq)).mono (by omega) (by omega) (by have := acs_len h; rw [show (50 + 1) * (acs p).length = 51 * (acs p).length from rfl]; omega)
/-- what is due -/
def dueT (p : List (List In)) : T := .vl [.tup ((sortU (names p)).map .str), .tup ((acs p).map Ac.sp)]
theorem due_V {p : List (List In)} (h : P3 p) : V 0 3 6000 (dueT p) :=
  (Vs.vl (Vs.cons ((nms_V h).mono (k' := 0) (d' := 2) (by omega) (by omega) (Nat.le_refl _)) (Vs.cons ((sps_V h).mono (k' := 0) (d' := 2) (by omega) (by omega) (Nat.le_refl _)) (Vs.nil (w := 0))))).mono (by omega) (by omega) (by omega)
theorem strsT_map : ∀ xs : List Ac, strsT (xs.map nx) = some (xs.map Ac.x)
  | [] => rfl
  | x :: xs => by
    show (strsT (xs.map nx)).map (x.x :: ·) = _
    rw [strsT_map xs]
    rfl
theorem set_nms {p : List (List In)} (h : P3 p) : setT true (.vl ((acs p).map nx)) = some (.vl ((sortU (names p)).map .str)) := by
  have h1 := acs_len h
  unfold setT strsV
  simp only [strsT_map, Option.bind_some, gd]
  rw [List.length_map, if_pos (by rw [decide_eq_true_eq]; omega), acs_nm]
  rfl
/-- repr([f(plan), g(plan)]) != repr(due) -/
theorem t_two {p : List (List In)} {ρ : Env} {S' : Sto} {es fs : Exs} {ks : List Str} {ke kf : Exs} (hp : P3 p) (h9 : ρ[9]? = some (some (dueT p)))
    (hv : ∀ Q : T → Sto → Prop, Q (.tup ((sortU (names p)).map .str)) S' → Run (ev ⟨callN tab W (n + 2), W⟩ (.call "variables_of" es ks ke) ρ S') Q)
    (ha : ∀ Q : T → Sto → Prop, Q (.tup ((acs p).map Ac.sp)) S' → Run (ev ⟨callN tab W (n + 2), W⟩ (.call "accesses" fs ks kf) ρ S') Q) :
    Is ⟨callN tab W (n + 2), W⟩ (.cmp .ne (.bif "repr" (.cons (.lst (.cons (.call "variables_of" es ks ke) (.cons (.call "accesses" fs ks kf) .nil))) .nil)) (.bif "repr" (.cons (.loc 9) .nil))) ρ S' false := by
  have r1 := repr_V (due_V hp) (by omega) (by omega) (by omega)
  unfold Is
  rw [rv_cmp, rv_bif, rs_cons, rv_lst, rs_cons]
  refine hv _ ?_
  rw [rs_cons]
  refine ha _ ?_
  rw [rs_nil]
  refine ⟨by simp [lim], ?_⟩
  rw [rs_nil]
  refine ⟨.str (dueT p).dat.shown, by rw [List.map_cons, List.map_nil]; exact (congrArg (fun t => bifT "repr" [t]) (due_V hp).vw).trans r1, ?_⟩
  rw [rv_bif, rs_cons, rv_loc]
  refine ⟨_, h9, ?_⟩
  rw [rs_nil]
  refine ⟨.str (dueT p).dat.shown, by rw [List.map_cons, List.map_nil, (due_V hp).vw]; exact r1, ?_⟩
  refine ⟨_, ne_str, ?_, rfl⟩
  simp
end Px.k03
end
section
set_option linter.all false
set_option maxRecDepth 100000
namespace Px.k03
open PySem Px Px.sh
variable {W n : Nat} {S : Sto} {P : T → Sto → Prop}
theorem run_par3 {C : Cfg} {i j k : Nat} {a b c : Ex} {ss : Sms} {ρ : Env} {S : Sto} {P : Fl × Env → Sto → Prop} (h : Run (ev C a ρ S) fun x S => Run (ev C b ρ S) fun y S => Run (ev C c ρ S) fun z S => Run (execs C ss (((ρ.set i (some x)).set j (some y)).set k (some z)) S) P) : Run (execs C (.cons (.par [i, j, k] (.cons a (.cons b (.cons c .nil)))) ss) ρ S) P := by
  rw [rxs_cons, rx_par, rs_cons]
  refine h.mono fun x S1 q => ?_
  rw [rs_cons]
  refine q.mono fun y S2 q2 => ?_
  rw [rs_cons]
  refine q2.mono fun z S3 q3 => ?_
  rw [rs_nil]
  exact ⟨_, rfl, q3⟩
def Em (p : List (List In)) (m kept : T) (l : Nat) (a b c d e f g h i : Option T) : Env := [some (planT p), some m, some kept, some (.loc l), some (.loc (l + 1)), a, b, c, d, some (dueT p), some (.vl ((acs p).map Ac.it)), e, f, g, h, i]
theorem bl2_V {a b : Bool} : V 0 1 10 (.vl [.bl a, .bl b]) := (Vs.vl (Vs.cons (v_bl (k := 0) (d := 0) (w := 0)) (Vs.cons (v_bl (w := 0)) (Vs.nil (w := 0))))).mono (by omega) (by omega) (by omega)
/-- list(zip(spots, here))[:most] -/
theorem t_zip {C : Cfg} {p : List (List In)} {m : Nat} {kept : T} {a b c d e f g h i : Option T} {Q : List T × Option Nat → Sto → Prop} (hp : P3 p) (hq : ∀ xs : List T, (∀ x ∈ xs, ∃ q ∈ acs p, x = .tup [q.sp, q.it]) → Q (xs, none) (S ++ [.lst ((acs p).map nx), .lst ((acs p).map Ac.sp)])) :
    Run (evi C (.plain (.slc (.lzip (.loc 4) (.loc 10)) .none (.some (.loc 1)))) (Em p (.int m) kept S.length a b c d e f g h i) (S ++ [.lst ((acs p).map nx), .lst ((acs p).map Ac.sp)])) Q := by
  have hl := acs_len hp
  rw [ri_plain, rv_slc, rv_lzip, rv_loc]
  refine ⟨_, rfl, ?_⟩
  rw [rv_loc]
  refine ⟨_, rfl, ?_⟩
  have e1 : vw (S ++ [.lst ((acs p).map nx), .lst ((acs p).map Ac.sp)]) (.loc (S.length + 1)) = .vl ((acs p).map Ac.sp) := vw0_loc at_b
  refine ⟨.vl (pairZ ((acs p).map Ac.sp) ((acs p).map Ac.it)), ?_, ?_⟩
  · rw [e1]
    show gd _ _ = _
    rw [gd, if_pos (by rw [decide_eq_true_eq, List.length_map]; unfold lim; omega)]
  · rw [ro_none, ro_some, rv_loc]
    refine ⟨_, rfl, _, rfl, .vl (cut (pairZ ((acs p).map Ac.sp) ((acs p).map Ac.it)) none (some (m : Int))), rfl, _, rfl, hq _ fun x hx => ?_⟩
    have hx : x ∈ pairZ ((acs p).map Ac.sp) ((acs p).map Ac.it) := List.mem_of_mem_drop (List.mem_of_mem_take hx)
    obtain ⟨j, hj⟩ := List.mem_iff_getElem?.mp hx
    obtain ⟨t0, t1, h0, h1, rfl⟩ := pairZ_get hj
    rw [List.getElem?_map] at h0 h1
    cases e : (acs p)[j]? with
    | none => rw [e] at h0; cases h0
    | some q =>
      rw [e] at h0 h1
      cases h0
      cases h1
      exact ⟨q, List.mem_of_getElem? e, rfl⟩
/-- told = [..]; if repr(told) != repr([..] * 2): return False -/
theorem t_told {p : List (List In)} {m : Nat} {kept : T} {x y : Ac} {o : Option T} {S' : Sto} {Q : Fl × Env → Sto → Prop} {ss : Sms} (hp : P3 p) (hx : x ∈ acs p) (hy : y ∈ acs p) {l : Nat} {a b c d : Option T}
    (h : ∀ o, Run (execs ⟨callN tab W (n + 2), W⟩ ss (Em p (.int m) kept l a b c d (some x.sp) (some x.it) (some y.sp) (some y.it) o) S') Q) :
    Run (execs ⟨callN tab W (n + 2), W⟩ (.cons (.asg (.nm 15) (.lst (.cons (.call "meets" (.cons (.loc 0) (.cons (.loc 11) (.cons (.loc 13) .nil))) [] .nil) (.cons (.call "meets" .nil ["other", "one", "program"] (.cons (.loc 13) (.cons (.loc 11) (.cons (.loc 0) .nil)))) .nil))))
  (.cons (.ife (.cmp .ne (.bif "repr" (.cons (.loc 15) .nil)) (.bif "repr" (.cons (.bin .mul (.lst (.cons (.call "_law_do_meet" (.cons (.loc 12) (.cons (.loc 14) .nil)) [] .nil) .nil)) (.con (.int 2))) .nil))) (.cons (.ret (.con (.bl false)))
  .nil) .nil) ss)) (Em p (.int m) kept l a b c d (some x.sp) (some x.it) (some y.sp) (some y.it) o) S') Q := by
  obtain ⟨r1, a1, a2, a3, _⟩ := ac_ok hp hx
  obtain ⟨r2, b1, b2, b3, _⟩ := ac_ok hp hy
  have hv : V 0 1 10 (.vl [.bl (mt x y), .bl (mt x y)]) := bl2_V
  have hr := repr_V hv (by omega) (by omega) (by omega)
  refine run_asg ?_
  rw [rv_lst, rs_cons, rv_call, rs_cons, rv_loc]
  refine ⟨_, rfl, ?_⟩
  rw [rs_cons, rv_loc]
  refine ⟨_, rfl, ?_⟩
  rw [rs_cons, rv_loc]
  refine ⟨_, rfl, ?_⟩
  rw [rs_nil, rs_nil]
  refine t_meets [planT p, x.sp, y.sp] [] (by rfl) a1 a2 b1 b2 a3 b3 ?_
  rw [rs_cons, rv_call, rs_nil, rs_cons, rv_loc]
  refine ⟨_, rfl, ?_⟩
  rw [rs_cons, rv_loc]
  refine ⟨_, rfl, ?_⟩
  rw [rs_cons, rv_loc]
  refine ⟨_, rfl, ?_⟩
  rw [rs_nil]
  refine t_meets [] [("other", y.sp), ("one", x.sp), ("program", planT p)] (by rfl) a1 a2 b1 b2 a3 b3 ?_
  rw [rs_nil]
  refine ⟨by simp [lim], ?_⟩
  show Run (execs _ _ (Em p (.int m) kept l a b c d (some x.sp) (some x.it) (some y.sp) (some y.it) (some (.vl [.bl (mt x y), .bl (mt x y)]))) S') Q
  refine run_no (x := false) ?_ (fun z => by cases z) fun _ => h _
  unfold Is
  rw [rv_cmp, rv_bif, rs_cons, rv_loc]
  refine ⟨_, rfl, ?_⟩
  rw [rs_nil]
  refine ⟨_, by rw [List.map_cons, List.map_nil, hv.vw]; exact hr, ?_⟩
  rw [rv_bif, rs_cons, rv_bin, rv_lst, rs_cons, rv_call, rs_cons, rv_loc]
  refine ⟨_, rfl, ?_⟩
  rw [rs_cons, rv_loc]
  refine ⟨_, rfl, ?_⟩
  rw [rs_nil, rs_nil]
  refine t_do_meet (n := n + 1) ?_
  rw [rs_nil]
  refine ⟨by simp [lim], ?_⟩
  rw [rv_con]
  refine ⟨.vl [.bl (mt x y), .bl (mt x y)], by rfl, ?_⟩
  rw [rs_nil]
  refine ⟨_, by rw [List.map_cons, List.map_nil, hv.vw]; exact hr, ?_⟩
  exact ⟨_, ne_str, by simp, rfl⟩
end Px.k03
end
section
set_option linter.all false
set_option maxRecDepth 100000
namespace Px.k03
open PySem Px Px.sh
variable {W n : Nat} {S : Sto} {P : T → Sto → Prop}
theorem callN_kw {tab : Str → Option Fn} {W n : Nat} {f : Str} {fn : Fn} {vs vs' : List T} {kv kv' : List (Str × T)} {S : Sto} (ht : tab f = some fn) (h : bindA fn.ps vs kv = bindA fn.ps vs' kv') : callN tab W (n + 1) f vs kv S = callN tab W (n + 1) f vs' kv' S := by
  unfold callN
  simp only [ht, h]
theorem t_plan_right {p : List (List In)} {m : Nat} (hp : P3 p) (h : P (.bl true) S) : Run (callN tab W (n + 3) "_law_plan_right" [planT p, .int m] [] S) P := by
  refine run_call (fn := fn__law_plan_right) (as := [planT p, .int m]) (by rfl) (by rfl) ?_
  show Run (execs _ b__law_plan_right [some (planT p), some (.int m), none, none, none, none, none, none, none, none, none, none, none, none, none, none] S) (Fin false S P)
  unfold b__law_plan_right
  have hv := plan_V3 hp
  have r0 := repr_V hv (by omega) (by omega) (by omega)
  have hl := acs_len hp
  refine run_par3 ?_
  rw [rv_bif, rs_cons, rv_loc]
  refine ⟨_, rfl, ?_⟩
  rw [rs_nil]
  refine ⟨_, by rw [List.map_cons, List.map_nil, hv.vw]; exact r0, ?_⟩
  rw [rv_new, rv_lst, rs_nil]
  refine ⟨by simp [lim], ?_⟩
  rw [rv_newv, rv_new, rv_lst, rs_nil]
  refine ⟨by simp [lim], ?_⟩
  rw [rv_newv]
  have e0 : (S ++ [.lst []]) ++ [Ob.lst []] = S ++ [.lst [], .lst []] := by simp
  have e1 : (S ++ [Ob.lst []]).length = S.length + 1 := by simp
  rw [e0, e1]
  refine loop_spots (m := .int m) (kept := .str (planT p).dat.shown) hp fun a b c d => ?_
  have vA : vw (S ++ [.lst ((acs p).map nx), .lst ((acs p).map Ac.sp)]) (.loc S.length) = .vl ((acs p).map nx) := vw0_loc at_a
  have vB : vw (S ++ [.lst ((acs p).map nx), .lst ((acs p).map Ac.sp)]) (.loc (S.length + 1)) = .vl ((acs p).map Ac.sp) := vw0_loc at_b
  refine run_asg ?_
  rw [rv_lst, rs_cons, rv_bty, rs_cons, rv_sset, rv_loc]
  refine ⟨_, rfl, _, by rw [vA]; exact set_nms hp, ?_⟩
  rw [rs_nil]
  refine ⟨.tup ((sortU (names p)).map .str), by rw [List.map_cons, List.map_nil, vw0_vl, bty_tupv], ?_⟩
  rw [rs_cons, rv_bty, rs_cons, rv_loc]
  refine ⟨_, rfl, ?_⟩
  rw [rs_nil]
  refine ⟨.tup ((acs p).map Ac.sp), by rw [List.map_cons, List.map_nil, vB, bty_tupv], ?_⟩
  rw [rs_nil]
  refine ⟨by simp [lim], ?_⟩
  refine run_no (x := false) (t_two (n := n) hp rfl (fun Q hq => ?_) fun Q hq => ?_) (fun z => by cases z) fun _ => ?_
  · rw [rv_call, rs_cons, rv_loc]
    refine ⟨_, rfl, ?_⟩
    rw [rs_nil, rs_nil]
    exact t_variables_of (tab := tab) (n := n) hp.len (fun r hr => ⟨hp.row r hr, fun i hi => ok_fit (hp.ok r hr i hi)⟩) hq
  · rw [rv_call, rs_cons, rv_loc]
    refine ⟨_, rfl, ?_⟩
    rw [rs_nil, rs_nil]
    exact t_accesses (n := n) [planT p] [] (by rfl) hp hq
  refine run_no (x := false) (t_two (n := n) hp rfl (fun Q hq => ?_) fun Q hq => ?_) (fun z => by cases z) fun _ => ?_
  · rw [rv_call, rs_nil, rs_cons, rv_loc]
    refine ⟨_, rfl, ?_⟩
    rw [rs_nil]
    show Run (callN tab W (n + 2) "variables_of" [] [("program", planT p)] _) Q
    rw [callN_kw (n := n + 1) (fn := fn_variables_of) (vs' := [planT p]) (kv' := []) (by rfl) (by rfl)]
    exact t_variables_of (tab := tab) (n := n) hp.len (fun r hr => ⟨hp.row r hr, fun i hi => ok_fit (hp.ok r hr i hi)⟩) hq
  · rw [rv_call, rs_nil, rs_cons, rv_loc]
    refine ⟨_, rfl, ?_⟩
    rw [rs_nil]
    exact t_accesses (n := n) [] [("program", planT p)] (by rfl) hp hq
  refine run_asg ?_
  rw [rv_comp, ri_plain, rv_loc]
  refine ⟨_, rfl, _, by rw [vB]; rfl, ?_⟩
  refine run_compL (fun j acc S1 => acc = ((acs p).take j).map Ac.it ∧ S1 = S ++ [.lst ((acs p).map nx), .lst ((acs p).map Ac.sp)]) _ 0 _ _ ⟨rfl, rfl⟩ ?_ ?_
  · rintro j x acc S1 hx ⟨rfl, rfl⟩
    rw [Nat.zero_add]
    rw [List.getElem?_map] at hx
    cases e : (acs p)[j]? with
    | none => rw [e] at hx; cases hx
    | some q =>
      rw [e] at hx
      cases hx
      obtain ⟨r, h1, h2, _⟩ := ac_ok hp (List.mem_of_getElem? e)
      rw [rv_bind, rv_opt]
      refine ⟨_, rfl, ?_⟩
      rw [rv_bind, rc_nil, if_pos rfl, rv_bind, rv_idx, rv_idx, rv_loc]
      refine ⟨_, rfl, ?_⟩
      rw [rv_loc]
      refine ⟨_, rfl, _, at_plan h1, ?_⟩
      rw [rv_loc]
      refine ⟨_, rfl, _, at_row h2, ?_⟩
      refine ⟨by show (S ++ _)[S.length + 1]? = _; rfl, ?_, rfl⟩
      rw [List.take_add_one, e, List.map_append]
      rfl
  · rintro acc S1 ⟨rfl, rfl⟩
    have el : 0 + ((acs p).map Ac.sp).length = (acs p).length := by simp
    rw [el, List.take_length]
    refine ⟨by rw [List.length_map]; unfold lim; omega, ?_⟩
    show Run (execs _ _ (Em p (.int m) (.str (planT p).dat.shown) S.length a b c d none none none none none) _) _
    refine run_for ?_
    refine t_zip hp fun xs hxs => ?_
    refine run_forL (fun k ρ S' => ∃ e f g h i, ρ = Em p (.int m) (.str (planT p).dat.shown) S.length a b c d e f g h i ∧ S' = S ++ [.lst ((acs p).map nx), .lst ((acs p).map Ac.sp)]) _ 0 _ _ ⟨none, none, none, none, none, rfl, rfl⟩ ?_ ?_
    · rintro k x ρ S' hx ⟨e, f, g, h', i, rfl, rfl⟩
      obtain ⟨q, hq, rfl⟩ := hxs x (List.mem_of_getElem? hx)
      rw [rv_bind, rv_opt]
      refine ⟨_, rfl, ?_⟩
      show Run (execs _ _ (Em p (.int m) (.str (planT p).dat.shown) S.length a b c d (some q.sp) (some q.it) g h' i) _) _
      refine run_for ?_
      refine t_zip hp fun ys hys => ?_
      refine run_forL (fun k ρ S' => ∃ g h i, ρ = Em p (.int m) (.str (planT p).dat.shown) S.length a b c d (some q.sp) (some q.it) g h i ∧ S' = S ++ [.lst ((acs p).map nx), .lst ((acs p).map Ac.sp)]) _ 0 _ _ ⟨g, h', i, rfl, rfl⟩ ?_ ?_
      · rintro j y ρ S' hy ⟨g, h', i, rfl, rfl⟩
        obtain ⟨r, hr, rfl⟩ := hys y (List.mem_of_getElem? hy)
        rw [rv_bind, rv_opt]
        refine ⟨_, rfl, ?_⟩
        show Run (execs _ _ (Em p (.int m) (.str (planT p).dat.shown) S.length a b c d (some q.sp) (some q.it) (some r.sp) (some r.it) i) _) _
        refine t_told (n := n) hp hq hr fun o => ?_
        rw [rxs_nil, turn_nx]
        exact ⟨trivial, _, _, _, rfl, rfl⟩
      · rintro ρ S' ⟨g, h', i, rfl, rfl⟩
        rw [nx_nx, rxs_nil, turn_nx]
        exact ⟨trivial, _, _, _, _, _, rfl, rfl⟩
    · rintro ρ S' ⟨e, f, g, h', i, rfl, rfl⟩
      rw [nx_nx]
      refine run_ret ?_
      rw [rv_cmp, rv_bif, rs_cons, rv_loc]
      refine ⟨_, rfl, ?_⟩
      rw [rs_nil]
      refine ⟨_, by rw [List.map_cons, List.map_nil, hv.vw]; exact r0, ?_⟩
      rw [rv_loc]
      refine ⟨_, rfl, _, eq_str, ?_⟩
      rw [fin_rt']
      have e2 : S ++ [.lst ((acs p).map nx), .lst ((acs p).map Ac.sp)] = (S ++ [.lst ((acs p).map nx)]) ++ [Ob.lst ((acs p).map Ac.sp)] := by simp
      refine gc_run (by simp) (fun i hi => .inl (by rw [List.getElem?_append_left hi])) rfl ?_
      rw [List.take_left, show decide ((planT p).dat.shown = (planT p).dat.shown) = true from decide_eq_true rfl]
      exact h
end Px.k03
end
section
set_option linter.all false
set_option maxRecDepth 100000
namespace Px.k03
open PySem Px Px.sh
variable {W n : Nat} {S : Sto} {P : T → Sto → Prop}
def six : List Str := ["a", "b", "cd", "efgh", "y", "z"]
theorem six_in : ∀ x ∈ six, x ∈ pool2 := by decide +kernel
/-- a plan that is right -/
theorem v_right {ρ : Env} {S : Sto} {p : List (List In)} {m : Nat} {e : Ex} {Q : T → Sto → Prop} (hp : P3 p) (he : Vl ⟨callN tab W (n + 3), W⟩ e ρ S (planT p)) (h : Q (.bl true) S) :
    Run (ev ⟨callN tab W (n + 3), W⟩ (.call "_law_plan_right" (.cons e (.cons (.con (.int m)) .nil)) [] .nil) ρ S) Q := by
  rw [rv_call, rs_cons]
  refine he.run ?_
  rw [rs_cons, rv_con, rs_nil, rs_nil]
  exact t_plan_right hp h
theorem t_right {l B : Nat} (hu : Ur l B S) (hB : B < 2 ^ 50) (hW : 8 < W) (h : ∀ S', P (.bl true) S') : Run (callN tab W (n + 5) "_law_right" [.loc l] [] S) P := by
  refine run_call (fn := fn__law_right) (as := [.loc l]) (by rfl) (by rfl) ?_
  show Run (execs _ b__law_right [some (.loc l), none, none, none] S) (Fin false S P)
  unfold b__law_right
  refine run_for ?_
  rw [ri_range, rs_cons, rv_con, rs_nil, rangeT_1]
  refine ⟨_, by rfl, ?_⟩
  refine run_forL (fun i ρ S' => ∃ o1, ρ = [some (.loc l), o1, none, none] ∧ Ur l (B + 5000 * i) S' ∧ Only l S S') _ 0 _ _ ⟨none, rfl, hu, Only.refl⟩ ?_ ?_
  · rintro i x ρ S' hx ⟨o1, rfl, hu1, ho1⟩
    obtain ⟨rfl, hi⟩ := rng_at hx
    have hi : i < 5 := by omega
    rw [Nat.zero_add] at hu1 ⊢
    rw [rv_bind, rv_opt]
    refine ⟨_, rfl, ?_⟩
    refine run_if ?_
    rw [rv_or, rv_not, rv_call, rs_cons, rv_call, rs_cons, rv_loc]
    refine ⟨_, rfl, ?_⟩
    rw [rs_cons, rv_con, rs_cons, rv_con, rs_cons, rv_con, rs_nil, rs_nil]
    refine t_plan (tab := tab) (n := n) (a := 4) (b := 8) (c := 6) hu1 (by omega) (by omega) (by omega) (by omega) (by omega) (by omega) hW fun p1 S2 hp1 hu2 ho2 => ?_
    rw [rs_cons, rv_con, rs_nil, rs_nil]
    refine t_plan_right (n := n + 1) (Px.k03.PlanOk.p3 hp1 (by omega) (by omega)) ?_
    refine ⟨_, rfl, _, rfl, ?_⟩
    rw [if_neg (by decide), rv_not, rv_call, rs_cons, rv_call, rs_cons, rv_loc]
    refine ⟨_, rfl, ?_⟩
    rw [rs_nil, rs_nil]
    refine t_near (tab := tab) (n := n) hu2 (by omega) hW fun p2 S3 hp2 hu3 ho3 => ?_
    rw [rs_cons, rv_con, rs_nil, rs_nil]
    refine t_plan_right (n := n + 1) (Px.k03.PlanOk.p3 hp2 (by omega) (by omega)) ?_
    refine ⟨_, rfl, _, rfl, ⟨(fun z => by cases z), fun _ => ?_⟩⟩
    rw [rxs_nil, nx_nx, rxs_nil, turn_nx]
    exact ⟨stays_none ▸ trivial, _, rfl, hu3.mono (by omega), (ho1.trans ho2).trans ho3⟩
  · rintro ρ S' ⟨o1, rfl, hu1, ho1⟩
    have el : 0 + (rng 0 5).length = 5 := by decide
    rw [nx_nx]
    refine run_asg ?_
    rw [rv_bty, rs_cons, rv_bin, rv_lst, rs_cons, rv_bty, rs_cons, rv_comp, ri_range, rs_cons, rv_con, rs_nil, rangeT_1]
    refine ⟨_, by rfl, ?_⟩
    refine run_compL (fun j acc S5 => ∃ r : List In, acc = r.map In.t ∧ r.length = j ∧ (∀ i ∈ r, i.ok six) ∧ Ur l (B + 25000 + 2 * j) S5 ∧ Only l S S5) _ 0 _ _ ⟨[], rfl, rfl, by simp, hu1.mono (by rw [el]; omega), ho1⟩ ?_ ?_
    · rintro j x acc S5 hx ⟨r, rfl, hr, hok, hu5, ho5⟩
      obtain ⟨rfl, hj⟩ := rng_at hx
      rw [Nat.zero_add] at hr hu5
      rw [rv_bind, rv_opt]
      refine ⟨_, rfl, ?_⟩
      rw [rv_bind, rc_nil, if_pos rfl, rv_bind, rv_call, rs_cons, rv_loc]
      refine ⟨_, rfl, ?_⟩
      rw [rs_cons]
      refine run_v (.vl (six.map .str)) (by simp [lim, six]) ?_
      rw [rs_nil, rs_nil]
      refine t_instruction (tab := tab) (n := n + 1) (N := six) hu5 (by omega) (by decide) (by decide) fun i S6 hi hu6 ho6 => ?_
      exact ⟨stays_none ▸ trivial, r ++ [i], by simp, by simp [hr], fun k hk => (List.mem_append.mp hk).elim (hok k) fun z => by rw [List.mem_singleton.mp z]; exact hi, hu6.mono (by omega), ho5.trans ho6⟩
    · rintro acc S5 ⟨r, rfl, hr, hok, hu5, ho5⟩
      have hr : r.length = 16 := by rw [hr]; decide
      refine ⟨by rw [List.length_map, hr]; decide, ?_⟩
      rw [rs_nil]
      refine ⟨rowT r, by rw [List.map_cons, List.map_nil, vw0_vl]; exact bty_tupv, ?_⟩
      rw [rs_nil]
      refine ⟨by simp [lim], ?_⟩
      rw [rv_con]
      refine ⟨.vl (List.replicate 6 (rowT r)), by rfl, ?_⟩
      rw [rs_nil]
      refine ⟨planT (List.replicate 6 r), by rw [List.map_cons, List.map_nil, vw0_vl]; exact bty_tupv, ?_⟩
      have p1 : P3 (List.replicate 6 r) := ⟨fun s hs i hi => by
        rw [List.eq_of_mem_replicate hs] at hi
        have := hok i hi
        cases i with
        | fence => trivial
        | acc w x => exact ⟨this.1, six_in x this.2⟩, fun s hs => by rw [List.eq_of_mem_replicate hs, hr]; exact Nat.le_refl _, by simp⟩
      have p2 : P3 [[], []] := ⟨by simp, by simp, by simp⟩
      have p3 : P3 [[.fence]] := ⟨by simp [In.ok], by simp, by simp⟩
      show Run (execs _ _ [some (.loc l), o1, some (planT (List.replicate 6 r)), none] S5) _
      refine run_ret ?_
      rw [rv_and]
      refine v_right (n := n + 1) (m := 12) p1 (Vl.loc rfl) ⟨_, rfl, ?_⟩
      rw [if_pos rfl, rv_and]
      refine v_right (n := n + 1) (m := 4) p2 ?_ ⟨_, rfl, ?_⟩
      · unfold Vl
        rw [rv_tup, rs_cons, rv_tup, rs_nil]
        refine ⟨by simp [lim], ?_⟩
        rw [rs_cons, rv_tup, rs_nil]
        refine ⟨by simp [lim], ?_⟩
        rw [rs_nil]
        exact ⟨by simp [lim], rfl, rfl⟩
      rw [if_pos rfl]
      refine v_right (n := n + 1) (m := 4) p3 ?_ ?_
      · unfold Vl
        rw [rv_tup, rs_cons, rv_tup, rs_cons, rv_tup, rs_cons, rv_con, rs_nil]
        refine ⟨by simp [lim], ?_⟩
        rw [rs_nil]
        refine ⟨by simp [lim], ?_⟩
        rw [rs_nil]
        exact ⟨by simp [lim], rfl, rfl⟩
      rw [fin_rt']
      exact gc_only rfl ho5 hu5 (h _)
theorem run : ∀ ns : List Int, ns.length ≤ 63 → ∃ S', runF tab 100 60 fn_law [.scr (ns.map .int)] [] = .ok (.bl true) S' := fun _ _ =>
  t_law (tab := tab) (n := 58) fun S l P hu h => t_right (n := 54) hu (by omega) (by decide) h
end Px.k03
end
open PySem PySem.W PyProof.Rows
set_option maxRecDepth 100000 in
set_option maxHeartbeats 0 in
theorem PySem.Challenge.cw_ringfences_k03_variables_and_accesses_holds : PySem.Challenge.rw_ringfences_k03_variables_and_accesses.Holds := by
  w_on; o_law; k_head; (case hw => w_witness2)
  k_fill
  refine Px.walk_P (l := PySem.Challenge.rw_ringfences_k03_variables_and_accesses) (W := fun _ => 100) Px.k03.pg Px.k03.e_law 63 60 rfl (by decide) rfl ⟨rfl, by decide, by decide⟩ (by decide +kernel) (fun w h Y => PySem.W.kIn_of Y) ?hK Px.k03.oks ?F (by first | decide +kernel | simp [Px.k03.pg]) rfl rfl (by first | decide +kernel | simp [Px.k03.e_law]) (by rw [Px.k03.tab_eq]; exact Px.k03.run)
  case hK => intro p; first | rfl | kernel_rfl | k_is
  case F =>
    intro w mg fa h KX G hmg
    refine' Px.k03.top_ok KX G ?a0 ?l0 ?c0 ?k0 ?a1 ?l1 ?c1 ?k1 ?a2 ?l2 ?c2 ?k2 ?a3 ?l3 ?c3 ?k3 ?a4 ?l4 ?c4 ?k4 ?a5 ?l5 ?c5 ?k5 ?a6 ?l6 ?c6 ?k6 ?a7 ?l7 ?c7 ?k7 ?a8 ?l8 ?c8 ?k8 ?a9 ?l9 ?c9 ?k9 ?a10 ?l10 ?c10 ?k10 ?a11 ?l11 ?c11 ?k11 ?a12 ?l12 ?c12 ?k12 ?a13 ?l13 ?c13 ?k13 ?a14 ?l14 ?c14 ?k14 ?a15 ?l15 ?c15 ?k15 ?a16 ?l16 ?c16 ?k16 ?m0 ?m1 ?m2 ?z0 ?z1 ?z2 ?z3 ?z4 ?z5 ?z6 ?z7 ?z8 ?z9 ?z10 ?z11 ?z12 ?z13
    (case a0 => k_is); (case l0 => k_is); (case c0 => k_is); (case k0 => k_is); (case a1 => k_is); (case l1 => k_is); (case c1 => k_is); (case k1 => k_is); (case a2 => k_is); (case l2 => k_is); (case c2 => k_is); (case k2 => k_is); (case a3 => k_is); (case l3 => k_is); (case c3 => k_is); (case k3 => k_is); (case a4 => k_is); (case l4 => k_is); (case c4 => k_is); (case k4 => k_is); (case a5 => k_is); (case l5 => k_is); (case c5 => k_is); (case k5 => k_is); (case a6 => k_is); (case l6 => k_is); (case c6 => k_is); (case k6 => k_is); (case a7 => k_is); (case l7 => k_is); (case c7 => k_is); (case k7 => k_is); (case a8 => k_is); (case l8 => k_is); (case c8 => k_is); (case k8 => k_is); (case a9 => k_is); (case l9 => k_is); (case c9 => k_is); (case k9 => k_is); (case a10 => k_is); (case l10 => k_is); (case c10 => k_is); (case k10 => k_is); (case a11 => k_is); (case l11 => k_is); (case c11 => k_is); (case k11 => k_is); (case a12 => k_is); (case l12 => k_is); (case c12 => k_is); (case k12 => k_is); (case a13 => k_is); (case l13 => k_is); (case c13 => k_is); (case k13 => k_is); (case a14 => k_is); (case l14 => k_is); (case c14 => k_is); (case k14 => k_is); (case a15 => k_is); (case l15 => k_is); (case c15 => k_is); (case k15 => k_is); (case a16 => k_is); (case l16 => k_is); (case c16 => k_is); (case k16 => k_is); (case m0 => k_is); (case m1 => k_is); (case m2 => k_is); (case z0 => k_is); (case z1 => k_is); (case z2 => k_is); (case z3 => k_is); (case z4 => k_is); (case z5 => k_is); (case z6 => k_is); (case z7 => k_is); (case z8 => k_is); (case z9 => k_is); (case z10 => k_is); (case z11 => k_is); (case z12 => k_is); (case z13 => k_is)

