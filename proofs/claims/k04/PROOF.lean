import PyProof.Rows.All
import Wide.All
import OpenK.AllK
import Wide.FinOn
import HandS.Base
import HandS.List
import HandS.Text
import HandS.StrMore
import HandS.Words
import HandS.WordsList
import HandS.Comp
import HandS.Iter
import HandS.IsInst
import HandS.Style
import HandS.TupMul
import HandS.StrSplit
import HandS.Flow
import HandS.ExcOwn
import HandS.TryMany
import HandS.ExcField
import KE.GoesMore
import HandS.Call
import HandS.Exc
import HandS.Ends
import KE.KExcSuper
import KE.KSuper
import KE.KExcMake
import HandS.Defaults
import KE.KStateDown
import HandS.More
import HandS.WordsExc
import HandS.Head0
import HandS.Head1
import HandS.Head2
import HandS.HeadEnd
import HandS.HeadHook1
import HandS.HeadHook2
import HandS.Wide
import PySem.Challenge.RW_bailiwick_k04_whole_readers_of_names
set_option Elab.async false
set_option linter.all false
set_option maxRecDepth 100000
set_option maxHeartbeats 4000000
/-! Ev1: a small evaluator over plain data, of a part of Python (my own text). -/
namespace Ev
open PySem

/-- plain data -/
inductive D where
  | non | bl (b : Bool) | int (i : Int) | str (s : List Nat) | tup (xs : List D) | lst (xs : List D)
  | dct (ks : List L2.Key) (vs : List D) | ty (n : String) | dice | opq (a : Nat)
  deriving Inhabited

/-- the dice's three ints -/
structure S where
  a : Int
  b : Int
  c : Int

/-- an exception: the number of its class, what it keeps -/
structure Ex where
  k : Nat
  d : D

inductive Out (α : Type) where
  | ok (a : α) (s : S)
  | exc (x : Ex) (s : S)
  | no
abbrev M (α : Type) := S → Out α
def M.ret {α : Type} (a : α) : M α := fun s => .ok a s
def M.no {α : Type} : M α := fun _ => .no
def M.bind {α β : Type} (m : M α) (f : α → M β) : M β := fun s => match m s with
  | .ok a s' => f a s'
  | .exc x s' => .exc x s'
  | .no => .no
def M.opt {α : Type} : Option α → M α
  | some a => M.ret a
  | none => M.no
/-- no exception is let out -/
def M.calm {α : Type} (m : M α) : M α := fun s => match m s with
  | .ok a s' => .ok a s'
  | _ => .no

abbrev lim : Nat := 1000000

/-! ### plain equality -/
mutual
def eqD : D → D → Bool
  | .non, .non => true
  | .bl a, .bl b => a == b
  | .bl a, .int j => (if a then 1 else 0) == j
  | .int i, .bl b => i == (if b then 1 else 0)
  | .int i, .int j => i == j
  | .str x, .str y => x == y
  | .lst xs, .lst ys => eqDs xs ys
  | .tup xs, .tup ys => eqDs xs ys
  | _, _ => false
def eqDs : List D → List D → Bool
  | [], [] => true
  | x :: xs, y :: ys => eqD x y && eqDs xs ys
  | _, _ => false
end
/-! data that == can be asked of, by the rule for lists and tuples -/
mutual
def okD : Nat → D → Bool
  | _, .non => true
  | _, .bl _ => true
  | _, .int _ => true
  | _, .str _ => true
  | n + 1, .lst xs => okDs n xs
  | n + 1, .tup xs => okDs n xs
  | _, _ => false
def okDs : Nat → List D → Bool
  | _, [] => true
  | n, x :: xs => okD n x && okDs n xs
end
def flatD : D → Bool
  | .non => true
  | .bl _ => true
  | .int _ => true
  | .str _ => true
  | _ => false
/-! holds no list, no dict, no dice -/
mutual
def noL : D → Bool
  | .lst _ => false
  | .dct _ _ => false
  | .dice => false
  | .tup xs => noLs xs
  | _ => true
def noLs : List D → Bool
  | [] => true
  | x :: xs => noL x && noLs xs
end

/-! ### operators -/
def truthD : D → Option Bool
  | .non => some false
  | .bl b => some b
  | .int i => some (i != 0)
  | .str s => if s.length ≤ lim then some (!s.isEmpty) else none
  | .tup xs => some (!xs.isEmpty)
  | .lst xs => some (!xs.isEmpty)
  | _ => none

def binD (o : Operator) (x y : D) : Option D :=
  match o, x, y with
  | .Add, .int i, .int j => some (.int (i + j))
  | .Add, .str a, .str b => if a.length + b.length ≤ lim then some (.str (a ++ b)) else none
  | .Add, .lst a, .lst b => if a.length + b.length ≤ lim then some (.lst (a ++ b)) else none
  | .Add, .tup a, .tup b => if a.length + b.length ≤ lim then (match a with
      | [] => none
      | _ :: _ => some (.tup (a ++ b))) else none
  | .Sub, .int i, .int j => some (.int (i - j))
  | .Mult, .int i, .int j => if (decide (-(2 ^ 64) < i) && decide (i < 2 ^ 64)) || (decide (-(2 ^ 64) < j) && decide (j < 2 ^ 64)) then some (.int (i * j)) else none
  | .Mult, .str a, .int j => if decide (j < 1000000) && decide (-1000000 < j) && decide (a.length * j.toNat ≤ lim) then some (.str (List.replicate j.toNat a).flatten) else none
  | .Mult, .tup a, .int j => if decide (2 ≤ j) && decide (j ≤ 1000) && decide (a.length ≤ 1000) && !a.isEmpty then some (.tup (List.replicate j.toNat a).flatten) else none
  | .Mult, .lst a, .int j => if decide (0 ≤ j) && decide (j ≤ 1000) && decide (a.length ≤ 1000) then some (.lst (List.replicate j.toNat a).flatten) else none
  | .Mod, .int i, .int j => if j = 0 then none else some (.int (i.fmod j))
  | .FloorDiv, .int i, .int j => if decide (j ≠ 0) && decide (j.natAbs < 1073741824) then some (.int (i.fdiv j)) else none
  | .Pow, .int i, .int j => if decide (0 ≤ j) && decide (j ≤ 1000) && decide (i.natAbs < 2 ^ 64) then some (.int (i ^ j.toNat)) else none
  | _, _, _ => none

def eqEach (x : D) : List D → Bool
  | [] => false
  | y :: ys => eqD y x || eqEach x ys
def inD (x y : D) : Option Bool :=
  match x, y with
  | .str [c], .str z => some (decide (c ∈ z))
  | x, .lst ys => if flatD x && ys.all flatD then some (eqEach x ys) else none
  | x, .tup ys => if flatD x && ys.all flatD then some (eqEach x ys) else none
  | _, _ => none
def isD (x y : D) : Option Bool :=
  match x, y with
  | .bl a, .bl b => some (a == b)
  | .non, .non => some true
  | .non, .bl _ => some false
  | .bl _, .non => some false
  | .int _, .non => some false
  | .str _, .non => some false
  | .tup _, .non => some false
  | .lst _, .non => some false
  | _, _ => none
def ordD (x y : D) : Option Ordering :=
  match x, y with
  | .int i, .int j => some (if i < j then .lt else if j < i then .gt else .eq)
  | .str a, .str b => some (if a < b then .lt else if b < a then .gt else .eq)
  | _, _ => none
def cmpD (o : CmpOp) (x y : D) : Option Bool :=
  match o with
  | .Eq => if okD 60 x && okD 60 y then some (eqD x y) else none
  | .NotEq => if okD 60 x && okD 60 y then some (!eqD x y) else none
  | .Lt => (ordD x y).map (· == .lt)
  | .LtE => (ordD x y).map (· != .gt)
  | .Gt => (ordD x y).map (· == .gt)
  | .GtE => (ordD x y).map (· != .lt)
  | .In => inD x y
  | .NotIn => (inD x y).map (!·)
  | .Is => isD x y
  | .IsNot => (isD x y).map (!·)

def strOf (s : List Nat) : Str := ⟨s.toArray⟩
def tyD : D → String
  | .non => "NoneType"
  | .bl _ => "bool"
  | .int _ => "int"
  | .str _ => "str"
  | .tup _ => "tuple"
  | .lst _ => "list"
  | .dct _ _ => "dict"
  | .ty _ => "type"
  | .dice => "list"
  | .opq _ => "object"
def knownTy (n : String) : Bool := n == "str" || n == "int" || n == "bool" || n == "tuple" || n == "list" || n == "dict"
def isiD (x : D) (n : String) : Option Bool :=
  match x with
  | .ty _ => none
  | .opq _ => none
  | _ => if knownTy n then some (tyD x == n || (tyD x == "bool" && n == "int")) else none
def boolsOf : List D → Option (List Bool)
  | [] => some []
  | .bl b :: r => (boolsOf r).map (b :: ·)
  | _ => none
def strsOf : List D → Option (List (List Nat))
  | [] => some []
  | .str s :: r => (strsOf r).map (s :: ·)
  | _ => none
abbrev joinL := TL.joinL

inductive Bi where
  | len | abs | max2 | min2 | int_ | str_ | isi | all_ | any_ | tuple_ | list_ | reprB
  deriving DecidableEq
def biD (f : Bi) (xs : List D) : Option D :=
  match f, xs with
  | .len, [.str s] => if s.length ≤ lim then some (.int s.length) else none
  | .len, [.lst xs] => some (.int xs.length)
  | .len, [.tup xs] => some (.int xs.length)
  | .abs, [.int i] => some (.int (if i < 0 then -i else i))
  | .max2, [.int i, .int j] => some (.int (if j > i then j else i))
  | .min2, [.int i, .int j] => some (.int (if j < i then j else i))
  | .int_, [.int i] => some (.int i)
  | .int_, [.bl k] => some (.int (if k then 1 else 0))
  | .int_, [.str s] => if s.length ≤ 640 then (PySem.intText? (strOf s)).map .int else none
  | .str_, [.int i] => if i.natAbs.log2 < 1920 then some (.str (Str.ofString (toString i)).cps.toList) else none
  | .isi, [x, .ty n] => (isiD x n).map .bl
  | .all_, [.lst xs] => (boolsOf xs).map fun bs => .bl (bs.all id)
  | .any_, [.lst xs] => (boolsOf xs).map fun bs => .bl (bs.any id)
  | .tuple_, [.lst xs] => some (.tup xs)
  | .tuple_, [.tup xs] => some (.tup xs)
  | .list_, [.lst xs] => some (.lst xs)
  | .list_, [.tup xs] => some (.lst xs)
  | .reprB, [.bl b] => some (.str (if b then [84, 114, 117, 101] else [70, 97, 108, 115, 101]))
  | _, _ => none

inductive Mt where
  | join | lower | upper | strip | lstrip | rstrip | split | startswith | endswith | find
  deriving DecidableEq
def lowC (c : Nat) : Nat := if 65 ≤ c ∧ c ≤ 90 then c + 32 else c
def upC (c : Nat) : Nat := if 97 ≤ c ∧ c ≤ 122 then c - 32 else c
def lstripL (cs s : List Nat) : List Nat := s.dropWhile fun c => cs.contains c
def rstripL (cs s : List Nat) : List Nat := (s.reverse.dropWhile fun c => cs.contains c).reverse
def mtS0 (f : List Nat → Option D) : D → List D → Option D
  | .str s, [] => f s
  | _, _ => none
def mtS1 (f : List Nat → List Nat → Option D) : D → List D → Option D
  | .str s, [.str p] => f s p
  | _, _ => none
def joinD : D → List D → Option D
  | .str s, [.lst xs] => (strsOf xs).bind fun zs => if (zs.map List.length).sum + zs.length * s.length ≤ lim then some (.str (joinL s zs)) else none
  | .str s, [.tup xs] => (strsOf xs).bind fun zs => if (zs.map List.length).sum + zs.length * s.length ≤ lim then some (.str (joinL s zs)) else none
  | _, _ => none
def ascii (s : List Nat) : Bool := s.all fun c => decide (c < 128)
def lowerF (s : List Nat) : Option D := if decide (s.length ≤ lim) && ascii s then some (.str (s.map lowC)) else none
def upperF (s : List Nat) : Option D := if decide (s.length ≤ lim) && ascii s then some (.str (s.map upC)) else none
def stripF (s p : List Nat) : Option D := if s.length ≤ lim then some (.str (rstripL p (lstripL p s))) else none
def lstripF (s p : List Nat) : Option D := if s.length ≤ lim then some (.str (lstripL p s)) else none
def rstripF (s p : List Nat) : Option D := if s.length ≤ lim then some (.str (rstripL p s)) else none
def splitF (s p : List Nat) : Option D := if decide (s.length ≤ lim) && ascii p && !p.isEmpty then some (.lst ((TL.spl p 0 [] s).map .str)) else none
def startsF (s p : List Nat) : Option D := some (.bl (s.take p.length == p))
def endsF (s p : List Nat) : Option D := some (.bl (decide (p.length ≤ s.length) && s.drop (s.length - p.length) == p))
/-- the first place from i on at which p stands, or -1 -/
def hitAt (s p : List Nat) (i : Nat) : Bool := decide (i + p.length ≤ s.length) && (s.drop i).take p.length == p
def findL (s p : List Nat) (at_ : Nat) : Int := match (List.range' at_ (s.length + 1 - at_)).find? (hitAt s p) with
  | some i => (i : Int)
  | none => -1
def findD : D → List D → Option D
  | .str s, [.str p, .int i] => if 0 ≤ i then some (.int (findL s p i.toNat)) else none
  | _, _ => none
def mtD (m : Mt) (x : D) (ys : List D) : Option D :=
  match m with
  | .join => joinD x ys
  | .lower => mtS0 lowerF x ys
  | .upper => mtS0 upperF x ys
  | .strip => mtS1 stripF x ys
  | .lstrip => mtS1 lstripF x ys
  | .rstrip => mtS1 rstripF x ys
  | .split => mtS1 splitF x ys
  | .startswith => mtS1 startsF x ys
  | .endswith => mtS1 endsF x ys
  | .find => findD x ys

def ixD (x y : D) : Option D :=
  match x, y with
  | .lst xs, .int i => L2.atI xs i
  | .tup xs, .int i => L2.atI xs i
  | .str s, .int i => if s.length ≤ lim then (L2.atI s i).map fun c => .str [c] else none
  | _, _ => none
def cutL {α : Type} (xs : List α) (lo hi : Option Int) : List α := (xs.drop (HT.sIx xs.length 0 lo)).take (HT.sIx xs.length xs.length hi - HT.sIx xs.length 0 lo)
def slD (x : D) (lo hi : Option Int) : Option D :=
  match x with
  | .lst xs => some (.lst (cutL xs lo hi))
  | .tup xs => if HT.sIx xs.length 0 lo = 0 ∧ HT.sIx xs.length xs.length hi = xs.length then none else some (.tup (cutL xs lo hi))
  | .str s => if s.length ≤ lim then some (.str (cutL s lo hi)) else none
  | _ => none
def revD (x : D) : Option D :=
  match x with
  | .str s => if s.length ≤ lim then some (.str s.reverse) else none
  | _ => none

/-- what a for walks -/
def itemsD : D → Option (List D)
  | .lst xs => some xs
  | .tup xs => some xs
  | .str s => some (s.map fun c => .str [c])
  | _ => none
/-- what enumerate walks -/
def enumOk : D → Option (List D)
  | .lst xs => some xs
  | .str s => some (s.map fun c => .str [c])
  | _ => none
def rangeD (lo : Int) (n : Nat) : List D := (List.range n).map fun i => .int (lo + (i : Nat))
def enumD (xs : List D) : List D := (List.range xs.length).zipWith (fun i x => .tup [.int (i : Nat), x]) xs

/-! ### code -/
inductive Tg where
  | name (i : Nat)
  | names (is : List Nat)
mutual
inductive C where
  | c (d : D)
  | g (k : Nat)
  | v (i : Nat)
  | ty (n : String)
  | tup (es : Cs)
  | lst (es : Cs)
  | dnew
  | bin (o : Operator) (a b : C)
  | cmp (o : CmpOp) (a b : C)
  | chn (o p : CmpOp) (a b c : C)
  | one (a : C)
  | and_ (a b : C)
  | or_ (a b : C)
  | not_ (a : C)
  | neg (a : C)
  | ite (t a b : C)
  | call (f : Nat) (es : Cs)
  | bi (f : Bi) (es : Cs)
  | mt (m : Mt) (o : C) (es : Cs)
  | ix (a b : C)
  | sl (a : C) (lo hi : Co)
  | rev (a : C)
  | comp (e : C) (tg : Tg) (it : It) (t : Co) (own : List Nat)
inductive Cs where
  | nil
  | cons (e : C) (es : Cs)
inductive Co where
  | none
  | some (e : C)
inductive It where
  | rng (a : C)
  | rng2 (a b : C)
  | seq (a : C)
  | enum (a : C)
end
/-- what an except clause hands back: a constant, or what the exception keeps -/
inductive Su where
  | con (d : D)
  | fld
/-- an except clause: the classes that it takes, the slot of its name -/
structure Hd where
  ks : List Nat
  i : Option Nat
  su : Su
mutual
inductive St where
  | set (i : Nat) (e : C) (m : Bool)
  | unp (is : List Nat) (e : C) (m : Bool)
  | par (is : List Nat) (es : Cs) (m : Bool)
  | newL (i : Nat) (es : Cs)
  | parL (i j : Nat) (e : C)
  | parR (i j : Nat) (e : C)
  | app (i : Nat) (e : C)
  | ifs (t : C) (a b : Sts)
  | for_ (tg : Tg) (it : It) (b : Sts)
  | whl (t : C) (b : Sts)
  | ret (e : C)
  | ex (e : C)
  | mat (e : C) (cs : Cases) (own : List Nat)
  | rse
  | rsx (k : Nat) (e : C)
  | rsp (k : Nat)
  | try_ (b : Sts) (hs : List Hd)
  | pass
  | brk
  | cnt
inductive Sts where
  | nil
  | cons (s : St) (r : Sts)
inductive Cases where
  | nil
  | cons (ps : List (List Nat)) (b : Sts) (r : Cases)
end

/-! ### evaluation -/
abbrev Env := List (Option D)
def getV (ρ : Env) (i : Nat) : Option D := (ρ[i]?).bind id
def wipeE (ρ : Env) : List Nat → Env
  | [] => ρ
  | v :: vs => (wipeE ρ vs).set v none
def setAll : List Nat → List D → Env → Option Env
  | [], [], ρ => some ρ
  | i :: is, d :: ds, ρ => setAll is ds (ρ.set i (some d))
  | _, _, _ => none
def bindT (tg : Tg) (d : D) (ρ : Env) : Option Env :=
  match tg with
  | .name i => some (ρ.set i (some d))
  | .names is => match d with
    | .tup ds => setAll is ds ρ
    | _ => none
def intOf : D → Option Int
  | .int i => some i
  | _ => none
def ofBool : Option Bool → Option D := Option.map .bl
/-- the turns of a comprehension: b binds the target, t tests, e is the element -/
def compD (b : D → Option Env) (t : Env → M Bool) (e : Env → M D) : List D → List D → M (List D)
  | [], acc => M.ret acc
  | x :: xs, acc => match b x with
    | none => M.no
    | some ρ => M.bind (t ρ) fun k => if k then (if acc.length < lim then M.bind (e ρ) fun d => compD b t e xs (acc ++ [d]) else M.no) else compD b t e xs acc
section
variable (con : List D) (F : Nat → List D → M D)
mutual
def evE : C → Env → M D
  | .c d, _ => M.ret d
  | .g k, _ => M.opt con[k]?
  | .v i, ρ => M.opt (getV ρ i)
  | .ty n, _ => M.ret (.ty n)
  | .tup es, ρ => M.bind (evEs es ρ) fun ds => if ds.length ≤ lim then M.ret (.tup ds) else M.no
  | .lst es, ρ => M.bind (evEs es ρ) fun ds => if ds.length ≤ lim then M.ret (.lst ds) else M.no
  | .dnew, _ => M.ret (.dct [] [])
  | .bin o a b, ρ => M.bind (evE a ρ) fun x => M.bind (evE b ρ) fun y => M.opt (binD o x y)
  | .cmp o a b, ρ => M.bind (evE a ρ) fun x => M.bind (evE b ρ) fun y => M.opt (ofBool (cmpD o x y))
  | .chn o p a b c, ρ => M.bind (evE a ρ) fun x => M.bind (evE b ρ) fun y => M.bind (M.opt (cmpD o x y)) fun k =>
      if k then M.bind (evE c ρ) fun z => M.opt (ofBool (cmpD p y z)) else M.ret (.bl false)
  | .one a, ρ => evE a ρ
  | .and_ a b, ρ => M.bind (evE a ρ) fun x => match x with
    | .bl true => evE b ρ
    | .bl false => M.ret (.bl false)
    | _ => M.no
  | .or_ a b, ρ => M.bind (evE a ρ) fun x => match x with
    | .bl true => M.ret (.bl true)
    | .bl false => evE b ρ
    | _ => M.no
  | .not_ a, ρ => M.bind (evE a ρ) fun x => M.bind (M.opt (truthD x)) fun k => M.ret (.bl (!k))
  | .neg a, ρ => M.bind (evE a ρ) fun x => match x with
    | .int i => M.ret (.int (-i))
    | _ => M.no
  | .ite t a b, ρ => M.bind (evE t ρ) fun x => M.bind (M.opt (truthD x)) fun k => if k then evE a ρ else evE b ρ
  | .call f es, ρ => M.bind (evEs es ρ) fun ds => F f ds
  | .bi f es, ρ => M.bind (evEs es ρ) fun ds => M.opt (biD f ds)
  | .mt m o es, ρ => M.bind (evE o ρ) fun x => M.bind (M.calm (evEs es ρ)) fun ds => M.opt (mtD m x ds)
  | .ix a b, ρ => M.bind (evE a ρ) fun x => M.bind (evE b ρ) fun y => M.opt (ixD x y)
  | .sl a lo hi, ρ => M.bind (evE a ρ) fun x => M.bind (evCo lo ρ) fun l => M.bind (evCo hi ρ) fun h => M.opt (slD x l h)
  | .rev a, ρ => M.bind (evE a ρ) fun x => M.opt (revD x)
  | .comp e tg it t own, ρ => M.bind (evIt it ρ) fun xs => M.bind (M.calm (compD (fun d => bindT tg d (wipeE ρ own)) (fun ρ' => evCt t ρ') (fun ρ' => evE e ρ') xs [])) fun ds => M.ret (.lst ds)
def evEs : Cs → Env → M (List D)
  | .nil, _ => M.ret []
  | .cons e es, ρ => M.bind (evE e ρ) fun x => M.bind (evEs es ρ) fun xs => M.ret (x :: xs)
/-- an optional part of a slice -/
def evCo : Co → Env → M (Option Int)
  | .none, _ => M.ret none
  | .some e, ρ => M.bind (evE e ρ) fun x => M.bind (M.opt (intOf x)) fun i => M.ret (some i)
/-- the test of a comprehension -/
def evCt : Co → Env → M Bool
  | .none, _ => M.ret true
  | .some e, ρ => M.bind (evE e ρ) fun x => M.opt (truthD x)
def evIt : It → Env → M (List D)
  | .rng a, ρ => M.bind (evE a ρ) fun x => M.bind (M.opt (intOf x)) fun n => if decide (-1000000 < n) && decide (n < 1000000) then M.ret (rangeD 0 n.toNat) else M.no
  | .rng2 a b, ρ => M.bind (evE a ρ) fun x => M.bind (evE b ρ) fun y => M.bind (M.opt (intOf x)) fun i => M.bind (M.opt (intOf y)) fun j =>
      if decide (-1000000 < i) && decide (i < 1000000) && decide (-1000000 < j) && decide (j < 1000000) then M.ret (rangeD i (j - i).toNat) else M.no
  | .seq a, ρ => M.bind (evE a ρ) fun x => M.opt (itemsD x)
  | .enum a, ρ => M.bind (evE a ρ) fun x => M.bind (M.opt (enumOk x)) fun xs => M.ret (enumD xs)
end

inductive Fl where
  | nx (ρ : Env)
  | rt (d : D)
  | bk (ρ : Env)
  | ct (ρ : Env)
/-- a for, turn by turn -/
def forD (b : D → Env → Option Env) (body : Env → M Fl) : List D → Env → M Fl
  | [], ρ => M.ret (.nx ρ)
  | x :: xs, ρ => match b x ρ with
    | none => M.no
    | some ρ1 => M.bind (body ρ1) fun f => match f with
      | .nx ρ2 => forD b body xs ρ2
      | .rt d => M.ret (.rt d)
      | .bk ρ2 => M.ret (.nx ρ2)
      | .ct ρ2 => forD b body xs ρ2
def whlD (t : Env → M Bool) (body : Env → M Fl) : Nat → Env → M Fl
  | 0, _ => M.no
  | n + 1, ρ => M.bind (t ρ) fun k => if k then M.bind (body ρ) fun f => match f with
      | .nx ρ2 => whlD t body n ρ2
      | .rt d => M.ret (.rt d)
      | .bk ρ2 => M.ret (.nx ρ2)
      | .ct ρ2 => whlD t body n ρ2
    else M.ret (.nx ρ)
abbrev fuel : Nat := 100000
/-- the except clauses, one behind the other -/
def handD : List Hd → Ex → S → Out Fl
  | [], x, s => .exc x s
  | h :: r, x, s => if h.ks.contains x.k then (match h.su with
      | .con d => .ok (.rt d) s
      | .fld => .ok (.rt x.d) s) else handD r x s
variable (own : List Nat)
def mask (ρ : Env) : Env := wipeE ρ own
/-- an expression whose value is to be stored -/
def evM (e : C) (m : Bool) (ρ : Env) : M D :=
  if m then M.bind (evE con F e ρ) fun d => if noL d then M.ret d else M.no else evE con F e (mask own ρ)
def evMs (es : Cs) (m : Bool) (ρ : Env) : M (List D) :=
  if m then M.bind (evEs con F es ρ) fun ds => if noLs ds then M.ret ds else M.no else evEs con F es (mask own ρ)
mutual
def exS : St → Env → M Fl
  | .set i e m, ρ => M.bind (evM con F own e m ρ) fun d => M.ret (.nx (ρ.set i (some d)))
  | .unp is e m, ρ => M.bind (evM con F own e m ρ) fun d => match d with
    | .tup ds => M.bind (M.opt (setAll is ds ρ)) fun ρ' => M.ret (.nx ρ')
    | _ => M.no
  | .par is es m, ρ => M.bind (evMs con F own es m ρ) fun ds => M.bind (M.opt (setAll is ds ρ)) fun ρ' => M.ret (.nx ρ')
  | .newL i es, ρ => M.bind (evEs con F es (mask own ρ)) fun ds => if ds.length ≤ lim then M.ret (.nx (ρ.set i (some (.lst ds)))) else M.no
  | .parL i j e, ρ => M.bind (evE con F e (mask own ρ)) fun d => M.ret (.nx ((ρ.set i (some (.lst []))).set j (some d)))
  | .parR i j e, ρ => M.bind (evE con F e (mask own ρ)) fun d => M.ret (.nx ((ρ.set i (some d)).set j (some (.lst []))))
  | .app i e, ρ => M.bind (M.calm (evE con F e (mask own ρ))) fun d => match getV ρ i with
    | some (.lst xs) => if xs.length < lim then M.ret (.nx (ρ.set i (some (.lst (xs ++ [d]))))) else M.no
    | _ => M.no
  | .ifs t a b, ρ => M.bind (evE con F t ρ) fun x => M.bind (M.opt (truthD x)) fun k => if k then exSs a ρ else exSs b ρ
  | .for_ tg it b, ρ => M.bind (evIt con F it (mask own ρ)) fun xs => forD (bindT tg) (fun ρ' => exSs b ρ') xs ρ
  | .whl t b, ρ => whlD (fun ρ' => M.bind (evE con F t ρ') fun x => M.opt (truthD x)) (fun ρ' => exSs b ρ') fuel ρ
  | .ret e, ρ => M.bind (evE con F e ρ) fun d => M.ret (.rt d)
  | .ex e, ρ => M.bind (evE con F e ρ) fun _ => M.ret (.nx ρ)
  | .mat e cs _, ρ => M.bind (evE con F e ρ) fun x => match x with
    | .str s => exCs cs s ρ
    | _ => M.no
  | .rse, _ => M.no
  | .rsx k e, ρ => M.bind (evE con F e (mask own ρ)) fun d s => .exc ⟨k, d⟩ s
  | .rsp k, _ => fun s => .exc ⟨k, .non⟩ s
  | .try_ b hs, ρ => fun s => match exSs b ρ s with
    | .exc x s' => handD hs x s'
    | o => o
  | .pass, ρ => M.ret (.nx ρ)
  | .brk, ρ => M.ret (.bk ρ)
  | .cnt, ρ => M.ret (.ct ρ)
def exSs : Sts → Env → M Fl
  | .nil, ρ => M.ret (.nx ρ)
  | .cons s r, ρ => M.bind (exS s ρ) fun f => match f with
    | .nx ρ' => exSs r ρ'
    | f => M.ret f
def exCs : Cases → List Nat → Env → M Fl
  | .nil, _, ρ => M.ret (.nx ρ)
  | .cons ps b r, s, ρ => if ps.any (· == s) then exSs b ρ else exCs r s ρ
end
end

/-- a def: how many names, the code, which slots hold lists of its own -/
structure Def where
  np : Nat
  nv : Nat
  own : List Nat
  body : Sts
def startE (n : Nat) (ds : List D) : Env := ds.map some ++ List.replicate (n - ds.length) none
def runDef (con : List D) (F : Nat → List D → M D) (f : Def) (ds : List D) : M D :=
  if ds.length = f.np then M.bind (exSs con F f.own f.body (startE f.nv ds)) fun r => match r with
    | .rt d => M.ret d
    | .nx _ => M.ret .non
    | _ => M.no
  else M.no
/-- the dice's roll, as the law's def does it -/
def rollD (n : Int) : M D := fun s =>
  if n < 1 ∨ 1000000 < n then .no else
  if 0 < s.a then .ok (.int (s.a.fmod n)) ⟨s.a.fdiv n, s.b, s.c⟩ else
    let c' := s.c + 1
    let one := (s.b + 1000357 * c').fmod 2305843009213693951
    let two := ((one * one).fmod 2305843009213693921 * one + 9491 * c').fmod 2305843009213693907
    .ok (.int ((two.fdiv 4096).fmod n)) ⟨s.a, s.b, c'⟩
def rollS : List D → M D
  | [.dice, .int k] => rollD k
  | _ => M.no
/-- the calls: fs the defs by number, number r the roll -/
def callD (con : List D) (fs : List Def) (r : Nat) : Nat → Nat → List D → M D
  | 0, _, _ => M.no
  | n + 1, f, ds => if f = r then rollS ds else match fs[f]? with
    | some d => runDef con (callD con fs r n) d ds
    | none => M.no
end Ev

/-! Ev2: what values stand for data; readings. -/
namespace Ev
open PySem L2

section
variable (K : PySem.W.Frag) (q : Addr) (A : Addr → Prop) (H : Hp)
mutual
def Rep : V → D → Prop
  | v, .non => v = .non
  | v, .bl b => v = .bl b
  | v, .int i => v = .int i
  | v, .str s => v = .str (strOf s) ∧ s.all (fun c => decide (c < 1114112)) = true
  | v, .tup xs => ∃ p vs, v = .ref p ∧ SqT K H p vs ∧ Reps vs xs
  | v, .lst xs => ∃ p vs, v = .ref p ∧ ¬ A p ∧ H p = some (.lst vs) ∧ Reps vs xs
  | v, .dct ks ds => ∃ p ws, v = .ref p ∧ ¬ A p ∧ H p = some (.dK (ks.zip ws)) ∧ ks.length = ws.length ∧ Reps ws ds
  | v, .ty n => v = .ty n
  | v, .dice => v = .ref q
  | v, .opq a => v = .ref a
def Reps : List V → List D → Prop
  | [], [] => True
  | v :: vs, d :: ds => Rep v d ∧ Reps vs ds
  | _, _ => False
end
end

section
variable {K : PySem.W.Frag} {q : Addr} {A A' : Addr → Prop} {H H' : Hp}
theorem Reps.length : ∀ {vs : List V} {ds : List D}, Reps K q A H vs ds → vs.length = ds.length
  | [], [], _ => rfl
  | _ :: _, _ :: _, h => by
    unfold Reps at h
    simp [Reps.length h.2]
  | [], _ :: _, h => by unfold Reps at h; exact h.elim
  | _ :: _, [], h => by unfold Reps at h; exact h.elim
theorem Reps.nil : Reps K q A H [] [] := by unfold Reps; trivial
theorem Reps.cons {v : V} {d : D} {vs : List V} {ds : List D} (h : Rep K q A H v d) (t : Reps K q A H vs ds) : Reps K q A H (v :: vs) (d :: ds) := by unfold Reps; exact ⟨h, t⟩
theorem Reps.get : ∀ {vs : List V} {ds : List D} {i : Nat} {d : D}, Reps K q A H vs ds → ds[i]? = some d → ∃ v, vs[i]? = some v ∧ Rep K q A H v d
  | [], [], i, d, _, e => by simp at e
  | v :: _, d :: _, 0, d', h, e => by
    unfold Reps at h
    simp at e
    subst e
    exact ⟨v, rfl, h.1⟩
  | _ :: vs, _ :: ds, i + 1, d, h, e => by
    unfold Reps at h
    obtain ⟨v, h1, h2⟩ := Reps.get (i := i) h.2 (by simpa using e)
    exact ⟨v, by simpa using h1, h2⟩
  | [], _ :: _, _, _, h, _ => by unfold Reps at h; exact h.elim
  | _ :: _, [], _, _, h, _ => by unfold Reps at h; exact h.elim
theorem Reps.getV : ∀ {vs : List V} {ds : List D} {i : Nat} {v : V}, Reps K q A H vs ds → vs[i]? = some v → ∃ d, ds[i]? = some d ∧ Rep K q A H v d
  | [], [], i, d, _, e => by simp at e
  | v :: _, d :: _, 0, d', h, e => by
    unfold Reps at h
    simp at e
    subst e
    exact ⟨d, rfl, h.1⟩
  | _ :: vs, _ :: ds, i + 1, d, h, e => by
    unfold Reps at h
    obtain ⟨v, h1, h2⟩ := Reps.getV (i := i) h.2 (by simpa using e)
    exact ⟨v, by simpa using h1, h2⟩
  | [], _ :: _, _, _, h, _ => by unfold Reps at h; exact h.elim
  | _ :: _, [], _, _, h, _ => by unfold Reps at h; exact h.elim
theorem Reps.append : ∀ {vs ws : List V} {ds es : List D}, Reps K q A H vs ds → Reps K q A H ws es → Reps K q A H (vs ++ ws) (ds ++ es)
  | [], _, [], _, _, h => h
  | _ :: _, _, _ :: _, _, h, t => by
    unfold Reps at h
    exact Reps.cons h.1 (Reps.append h.2 t)
  | [], _, _ :: _, _, h, _ => by unfold Reps at h; exact h.elim
  | _ :: _, _, [], _, h, _ => by unfold Reps at h; exact h.elim
theorem Reps.take : ∀ {vs : List V} {ds : List D} (n : Nat), Reps K q A H vs ds → Reps K q A H (vs.take n) (ds.take n)
  | [], [], n, h => by simpa using h
  | _ :: _, _ :: _, 0, _ => Reps.nil
  | _ :: _, _ :: _, n + 1, h => by
    unfold Reps at h
    exact Reps.cons h.1 (Reps.take n h.2)
  | [], _ :: _, _, h => by unfold Reps at h; exact h.elim
  | _ :: _, [], _, h => by unfold Reps at h; exact h.elim
theorem Reps.drop : ∀ {vs : List V} {ds : List D} (n : Nat), Reps K q A H vs ds → Reps K q A H (vs.drop n) (ds.drop n)
  | [], [], n, h => by simpa using h
  | _ :: _, _ :: _, 0, h => h
  | _ :: _, _ :: _, n + 1, h => by
    unfold Reps at h
    simpa using Reps.drop n h.2
  | [], _ :: _, _, h => by unfold Reps at h; exact h.elim
  | _ :: _, [], _, h => by unfold Reps at h; exact h.elim
theorem Reps.reverse : ∀ {vs : List V} {ds : List D}, Reps K q A H vs ds → Reps K q A H vs.reverse ds.reverse
  | [], [], h => h
  | _ :: _, _ :: _, h => by
    unfold Reps at h
    rw [List.reverse_cons, List.reverse_cons]
    exact Reps.append (Reps.reverse h.2) (Reps.cons h.1 Reps.nil)
  | [], _ :: _, h => by unfold Reps at h; exact h.elim
  | _ :: _, [], h => by unfold Reps at h; exact h.elim
theorem Reps.rep {vs : List V} {ds : List D} (h : Reps K q A H vs ds) : ∀ n : Nat, Reps K q A H (List.replicate n vs).flatten (List.replicate n ds).flatten
  | 0 => Reps.nil
  | n + 1 => by
    rw [List.replicate_succ, List.replicate_succ, List.flatten_cons, List.flatten_cons]
    exact Reps.append h (Reps.rep h n)

/-- what may change: what A tells; tuples and locked things stay -/
structure Mono (A : Addr → Prop) (H H' : Hp) : Prop where
  keep : ∀ a o, ¬ A a → H a = some o → H' a = some o
  tup : ∀ a xs, H a = some (.tup xs) → H' a = some (.tup xs)
  frz : ∀ a o u, H a = some (.frz o u) → H' a = some (.frz o u)
theorem Mono.refl : Mono A H H := ⟨fun _ _ _ h => h, fun _ _ h => h, fun _ _ _ h => h⟩
theorem Mono.trans {H1 H2 : Hp} (a : Mono A H H1) (b : Mono A H1 H2) : Mono A H H2 :=
  ⟨fun x o n h => b.keep x o n (a.keep x o n h), fun x xs h => b.tup x xs (a.tup x xs h), fun x o u h => b.frz x o u (a.frz x o u h)⟩
theorem Mono.weak (a : Mono A H H') (h : ∀ x, A x → A' x) : Mono A' H H' := ⟨fun x o n e => a.keep x o (fun z => n (h x z)) e, a.tup, a.frz⟩
theorem Mono.sqT (m : Mono A H H') {p : Addr} {xs : List V} (h : SqT K H p xs) : SqT K H' p xs := by
  rcases h with (h | ⟨o, h⟩) | h
  · exact .inl (.inl (m.tup _ _ h))
  · exact .inl (.inr ⟨o, m.frz _ _ _ h⟩)
  · exact .inr h
mutual
theorem Rep.mono (m : Mono A H H') : ∀ (d : D) (v : V), Rep K q A H v d → Rep K q A H' v d
  | .non, v, h => by unfold Rep at h ⊢; exact h
  | .bl b, v, h => by unfold Rep at h ⊢; exact h
  | .int i, v, h => by unfold Rep at h ⊢; exact h
  | .str s, v, h => by unfold Rep at h ⊢; exact h
  | .tup xs, v, h => by
    unfold Rep at h ⊢
    obtain ⟨p, vs, e, sq, r⟩ := h
    exact ⟨p, vs, e, m.sqT sq, Reps.mono m xs vs r⟩
  | .lst xs, v, h => by
    unfold Rep at h ⊢
    obtain ⟨p, vs, e, n, sq, r⟩ := h
    exact ⟨p, vs, e, n, m.keep _ _ n sq, Reps.mono m xs vs r⟩
  | .dct ks ds, v, h => by
    unfold Rep at h ⊢
    obtain ⟨p, ws, e, n, sq, l, r⟩ := h
    exact ⟨p, ws, e, n, m.keep _ _ n sq, l, Reps.mono m ds ws r⟩
  | .ty n, v, h => by unfold Rep at h ⊢; exact h
  | .dice, v, h => by unfold Rep at h ⊢; exact h
  | .opq a, v, h => by unfold Rep at h ⊢; exact h
theorem Reps.mono (m : Mono A H H') : ∀ (ds : List D) (vs : List V), Reps K q A H vs ds → Reps K q A H' vs ds
  | [], [], h => Reps.nil
  | d :: ds, v :: vs, h => by
    unfold Reps at h
    exact Reps.cons (Rep.mono m d v h.1) (Reps.mono m ds vs h.2)
  | _ :: _, [], h => by unfold Reps at h; exact h.elim
  | [], _ :: _, h => by unfold Reps at h; exact h.elim
end
mutual
/-- fewer things to be avoided -/
theorem Rep.anti (m : ∀ a, A' a → A a) : ∀ (d : D) (v : V), Rep K q A H v d → Rep K q A' H v d
  | .non, v, h => by unfold Rep at h ⊢; exact h
  | .bl b, v, h => by unfold Rep at h ⊢; exact h
  | .int i, v, h => by unfold Rep at h ⊢; exact h
  | .str s, v, h => by unfold Rep at h ⊢; exact h
  | .tup xs, v, h => by
    unfold Rep at h ⊢
    obtain ⟨p, vs, e, sq, r⟩ := h
    exact ⟨p, vs, e, sq, Reps.anti m xs vs r⟩
  | .lst xs, v, h => by
    unfold Rep at h ⊢
    obtain ⟨p, vs, e, n, sq, r⟩ := h
    exact ⟨p, vs, e, fun z => n (m _ z), sq, Reps.anti m xs vs r⟩
  | .dct ks ds, v, h => by
    unfold Rep at h ⊢
    obtain ⟨p, ws, e, n, sq, l, r⟩ := h
    exact ⟨p, ws, e, fun z => n (m _ z), sq, l, Reps.anti m ds ws r⟩
  | .ty n, v, h => by unfold Rep at h ⊢; exact h
  | .dice, v, h => by unfold Rep at h ⊢; exact h
  | .opq a, v, h => by unfold Rep at h ⊢; exact h
theorem Reps.anti (m : ∀ a, A' a → A a) : ∀ (ds : List D) (vs : List V), Reps K q A H vs ds → Reps K q A' H vs ds
  | [], [], h => Reps.nil
  | d :: ds, v :: vs, h => by
    unfold Reps at h
    exact Reps.cons (Rep.anti m d v h.1) (Reps.anti m ds vs h.2)
  | _ :: _, [], h => by unfold Reps at h; exact h.elim
  | [], _ :: _, h => by unfold Reps at h; exact h.elim
end
mutual
/-- without lists there is nothing to be avoided -/
theorem Rep.flat {q' : Addr} : ∀ (d : D) (v : V), noL d = true → Rep K q A H v d → Rep K q' A' H v d
  | .non, v, _, h => by unfold Rep at h ⊢; exact h
  | .bl b, v, _, h => by unfold Rep at h ⊢; exact h
  | .int i, v, _, h => by unfold Rep at h ⊢; exact h
  | .str s, v, _, h => by unfold Rep at h ⊢; exact h
  | .tup xs, v, n, h => by
    unfold Rep at h ⊢
    unfold noL at n
    obtain ⟨p, vs, e, sq, r⟩ := h
    exact ⟨p, vs, e, sq, Reps.flat xs vs n r⟩
  | .lst xs, v, n, h => by unfold noL at n; cases n
  | .dct ks ds, v, n, h => by unfold noL at n; cases n
  | .ty n, v, _, h => by unfold Rep at h ⊢; exact h
  | .dice, v, n, h => by unfold noL at n; cases n
  | .opq a, v, _, h => by unfold Rep at h ⊢; exact h
theorem Reps.flat {q' : Addr} : ∀ (ds : List D) (vs : List V), noLs ds = true → Reps K q A H vs ds → Reps K q' A' H vs ds
  | [], [], _, h => Reps.nil
  | d :: ds, v :: vs, n, h => by
    unfold Reps at h
    unfold noLs at n
    rw [Bool.and_eq_true] at n
    exact Reps.cons (Rep.flat d v n.1 h.1) (Reps.flat ds vs n.2 h.2)
  | _ :: _, [], _, h => by unfold Reps at h; exact h.elim
  | [], _ :: _, _, h => by unfold Reps at h; exact h.elim
end
end

/-! ### the state of an expression -/
/-- the dice -/
def Dc (q : Addr) (H : Hp) (s : S) : Prop := H q = some (.lst [.int s.a, .int s.b, .int s.c])
/-- all but the dice is kept -/
def Keep (q : Addr) (H H' : Hp) : Prop := ∀ a o, a ≠ q → H a = some o → H' a = some o
section
variable {K : PySem.W.Frag} {q : Addr} {A : Addr → Prop} {H H' H1 H2 : Hp} {s s1 s2 : S} {σ : L2.St} {ρ : Env}
theorem Keep.refl : Keep q H H := fun _ _ _ h => h
theorem Keep.trans (a : Keep q H H1) (b : Keep q H1 H2) : Keep q H H2 := fun x o n h => b x o n (a x o n h)
theorem Keep.new {p : Addr} {o : HO} (h : H p = none) : Keep q H (upd H p o) := fun a u n e => by
  rw [upd_ne (ne_of_none e h)]
  exact e
theorem Keep.mono (k : Keep q H H') (aq : A q) (d : Dc q H s) : Mono A H H' :=
  ⟨fun a o n h => k a o (fun z => n (z ▸ aq)) h, fun a xs h => k a _ (fun z => by rw [z, d] at h; cases h) h, fun a o u h => k a _ (fun z => by rw [z, d] at h; cases h) h⟩
theorem Dc.upd {p : Addr} {o : HO} (d : Dc q H s) (h : H p = none) : Dc q (upd H p o) s := by
  unfold Dc at d ⊢
  rw [upd_ne (ne_of_none d h)]
  exact d
structure St0 (K : PySem.W.Frag) (q : Addr) (A : Addr → Prop) (σ : L2.St) (ρ : Env) (H : Hp) (s : S) : Prop where
  aq : A q
  tr : ∀ a, A a → ∃ o, H a = some o
  dc : Dc q H s
  sl : ∀ i d, getV ρ i = some d → ∃ v, σ[i]? = some (some v) ∧ Rep K q A H v d
  ln : ρ.length ≤ σ.length
theorem St0.go (x : St0 K q A σ ρ H s) (k : Keep q H H') (d : Dc q H' s1) : St0 K q A σ ρ H' s1 :=
  ⟨x.aq, fun a ha => by
    by_cases e : a = q
    · subst e
      exact ⟨_, d⟩
    · obtain ⟨o, h⟩ := x.tr a ha
      exact ⟨o, k a o e h⟩, d, fun i dd h => by
    obtain ⟨v, h1, h2⟩ := x.sl i dd h
    exact ⟨v, h1, Rep.mono (k.mono x.aq x.dc) dd v h2⟩, x.ln⟩
theorem St0.fresh (x : St0 K q A σ ρ H s) {p : Addr} (h : H p = none) : ¬ A p := fun a => by
  obtain ⟨o, e⟩ := x.tr p a
  rw [h] at e
  cases e
/-- the classes of exceptions: where they lie, the name of what they keep; what is wanted of an exception that leaves -/
structure XX where
  T : List (Addr × Option Str)
  w : XK
def XRep (T : List (Addr × Option Str)) (K : PySem.W.Frag) (q : Addr) (A : Addr → Prop) (H : Hp) (cls : Value) (d : Option Addr) (x : Ex) : Prop :=
  ∃ C f, T[x.k]? = some (C, f) ∧ cls = .ref C ∧ match f with
    | none => x.d = .non
    | some n => ∃ dd v, d = some dd ∧ H dd = some (.xd [(n, v)]) ∧ Rep K q A H v x.d
theorem XRep.anti {T : List (Addr × Option Str)} {A' : Addr → Prop} {cls : Value} {d : Option Addr} {x : Ex} (m : ∀ a, A' a → A a) (h : XRep T K q A H cls d x) : XRep T K q A' H cls d x := by
  obtain ⟨C, f, h1, h2, h3⟩ := h
  refine ⟨C, f, h1, h2, ?_⟩
  cases f with
  | none => exact h3
  | some n =>
    obtain ⟨dd, v, h4, h5, h6⟩ := h3
    exact ⟨dd, v, h4, h5, Rep.anti m _ _ h6⟩
/-- what is wanted of an exception -/
def PXc (xx : XX) (K : PySem.W.Frag) (q : Addr) (A : Addr → Prop) (H : Hp) (x : Ex) (s' : S) : Prop :=
  ∀ cls d H', Keep q H H' → Dc q H' s' → XRep xx.T K q A H' cls d x → xx.w cls d H'
theorem PXc.weak {xx : XX} {x : Ex} {s' : S} (h : PXc xx K q A H x s') (k : Keep q H H1) : PXc xx K q A H1 x s' := fun cls d H' k' d' r => h cls d H' (k.trans k') d' r
/-- what is wanted behind an expression -/
def PostE (xx : XX) (K : PySem.W.Frag) (q : Addr) (A : Addr → Prop) (H : Hp) (o : Out D) (Q : VK) : Prop := match o with
  | .ok d s' => ∀ v H', Keep q H H' → Dc q H' s' → Rep K q A H' v d → Q v H'
  | .exc x s' => PXc xx K q A H x s'
  | .no => False
def PostL (xx : XX) (K : PySem.W.Frag) (q : Addr) (A : Addr → Prop) (H : Hp) (o : Out (List D)) (Q : List V → Hp → Prop) : Prop := match o with
  | .ok ds s' => ∀ vs H', Keep q H H' → Dc q H' s' → Reps K q A H' vs ds → Q vs H'
  | .exc x s' => PXc xx K q A H x s'
  | .no => False
def PostX {α : Type} (xx : XX) (K : PySem.W.Frag) (q : Addr) (A : Addr → Prop) (H : Hp) (o : Out α) (Q : α → Hp → Prop) : Prop := match o with
  | .ok b s' => ∀ H', Keep q H H' → Dc q H' s' → Q b H'
  | .exc x s' => PXc xx K q A H x s'
  | .no => False
def rdE (xx : XX) (K : PySem.W.Frag) (m : Env → M D) : TE := fun σ H Q => ∃ q A ρ s, St0 K q A σ ρ H s ∧ PostE xx K q A H (m ρ s) Q
def rdT (xx : XX) (K : PySem.W.Frag) (m : Env → M Bool) : TT := fun σ H Q => ∃ q A ρ s, St0 K q A σ ρ H s ∧ PostX xx K q A H (m ρ s) Q
def rdA (xx : XX) (K : PySem.W.Frag) (m : Env → M (List D)) : TA := fun σ H Q => ∃ q A ρ s, St0 K q A σ ρ H s ∧ PostL xx K q A H (m ρ s) Q
def rdO (xx : XX) (K : PySem.W.Frag) (m : Env → M (Option Int)) : TO := fun σ H Q => ∃ q A ρ s, St0 K q A σ ρ H s ∧ PostX xx K q A H (m ρ s) Q
variable {xx : XX}
/-- an expression, then what goes on with its datum -/
theorem postE_bind {α : Type} {m : M D} {f : D → M α} {P : Hp → Out α → Prop} {Q : VK} (h : P H (M.bind m f s))
    (hP : ¬ P H .no) (hX : ∀ x s', P H (.exc x s') → PXc xx K q A H x s') (hf : ∀ d s1 v H1, m s = .ok d s1 → P H (f d s1) → Keep q H H1 → Dc q H1 s1 → Rep K q A H1 v d → Q v H1) : PostE xx K q A H (m s) Q := by
  unfold M.bind at h
  cases e : m s with
  | ok d s1 =>
    rw [e] at h
    intro v H1 k d1 r
    exact hf d s1 v H1 e h k d1 r
  | exc x s' =>
    rw [e] at h
    exact hX _ _ h
  | no =>
    rw [e] at h
    exact (hP h).elim
theorem PostE.weak {o : Out D} {Q : VK} (h : PostE xx K q A H o Q) (k : Keep q H H1) : PostE xx K q A H1 o Q := by
  cases o with
  | ok d s' => exact fun v H' k' d' r => h v H' (k.trans k') d' r
  | exc x s' => exact PXc.weak h k
  | no => exact h
theorem PostL.weak {o : Out (List D)} {Q : List V → Hp → Prop} (h : PostL xx K q A H o Q) (k : Keep q H H1) : PostL xx K q A H1 o Q := by
  cases o with
  | ok d s' => exact fun v H' k' d' r => h v H' (k.trans k') d' r
  | exc x s' => exact PXc.weak h k
  | no => exact h
theorem PostX.weak {α : Type} {o : Out α} {Q : α → Hp → Prop} (h : PostX xx K q A H o Q) (k : Keep q H H1) : PostX xx K q A H1 o Q := by
  cases o with
  | ok d s' => exact fun H' k' d' => h H' (k.trans k') d'
  | exc x s' => exact PXc.weak h k
  | no => exact h
end

/-! the sequence rules: an expression first -/
section
variable {xx : XX} {K : PySem.W.Frag} {q : Addr} {A : Addr → Prop} {H : Hp} {s : S} {σ : L2.St} {ρ : Env} {m : Env → M D}
theorem seqE {f : D → M D} {Q Q' : VK} (x : St0 K q A σ ρ H s) (h : PostE xx K q A H (M.bind (m ρ) f s) Q)
    (hf : ∀ d s1 v H1, St0 K q A σ ρ H1 s1 → Keep q H H1 → Rep K q A H1 v d → PostE xx K q A H1 (f d s1) Q → Q' v H1) : rdE xx K m σ H Q' :=
  ⟨q, A, ρ, s, x, postE_bind (P := fun H o => PostE xx K q A H o Q) h (fun z => z) (fun _ _ z => z) fun d s1 v H1 e p k d1 r => hf d s1 v H1 (x.go k d1) k r (p.weak k)⟩
theorem seqL {f : D → M (List D)} {Q : List V → Hp → Prop} {Q' : VK} (x : St0 K q A σ ρ H s) (h : PostL xx K q A H (M.bind (m ρ) f s) Q)
    (hf : ∀ d s1 v H1, St0 K q A σ ρ H1 s1 → Keep q H H1 → Rep K q A H1 v d → PostL xx K q A H1 (f d s1) Q → Q' v H1) : rdE xx K m σ H Q' :=
  ⟨q, A, ρ, s, x, postE_bind (P := fun H o => PostL xx K q A H o Q) h (fun z => z) (fun _ _ z => z) fun d s1 v H1 e p k d1 r => hf d s1 v H1 (x.go k d1) k r (p.weak k)⟩
theorem seqX {α : Type} {f : D → M α} {Q : α → Hp → Prop} {Q' : VK} (x : St0 K q A σ ρ H s) (h : PostX xx K q A H (M.bind (m ρ) f s) Q)
    (hf : ∀ d s1 v H1, St0 K q A σ ρ H1 s1 → Keep q H H1 → Rep K q A H1 v d → PostX xx K q A H1 (f d s1) Q → Q' v H1) : rdE xx K m σ H Q' :=
  ⟨q, A, ρ, s, x, postE_bind (P := fun H o => PostX xx K q A H o Q) h (fun z => z) (fun _ _ z => z) fun d s1 v H1 e p k d1 r => hf d s1 v H1 (x.go k d1) k r (p.weak k)⟩
/-- a list of expressions first -/
theorem seqA {m : Env → M (List D)} {f : List D → M D} {Q : VK} {Q' : List V → Hp → Prop} (x : St0 K q A σ ρ H s) (h : PostE xx K q A H (M.bind (m ρ) f s) Q)
    (hf : ∀ ds s1 vs H1, St0 K q A σ ρ H1 s1 → Keep q H H1 → Reps K q A H1 vs ds → PostE xx K q A H1 (f ds s1) Q → Q' vs H1) : rdA xx K m σ H Q' := by
  refine ⟨q, A, ρ, s, x, ?_⟩
  unfold M.bind at h
  cases e : m ρ s with
  | ok d s1 =>
    rw [e] at h
    intro v H1 k d1 r
    exact hf d s1 v H1 (x.go k d1) k r (PostE.weak h k)
  | exc y s' =>
    rw [e] at h
    exact h
  | no =>
    rw [e] at h
    exact h
theorem seqAL {m : Env → M (List D)} {f : List D → M (List D)} {Q Q' : List V → Hp → Prop} (x : St0 K q A σ ρ H s) (h : PostL xx K q A H (M.bind (m ρ) f s) Q)
    (hf : ∀ ds s1 vs H1, St0 K q A σ ρ H1 s1 → Keep q H H1 → Reps K q A H1 vs ds → PostL xx K q A H1 (f ds s1) Q → Q' vs H1) : rdA xx K m σ H Q' := by
  refine ⟨q, A, ρ, s, x, ?_⟩
  unfold M.bind at h
  cases e : m ρ s with
  | ok d s1 =>
    rw [e] at h
    intro v H1 k d1 r
    exact hf d s1 v H1 (x.go k d1) k r (PostL.weak h k)
  | exc y s' =>
    rw [e] at h
    exact h
  | no =>
    rw [e] at h
    exact h
/-- a test first -/
theorem seqT {m : Env → M Bool} {f : Bool → M D} {Q : VK} {Q' : Bool → Hp → Prop} (x : St0 K q A σ ρ H s) (h : PostE xx K q A H (M.bind (m ρ) f s) Q)
    (hf : ∀ b s1 H1, St0 K q A σ ρ H1 s1 → Keep q H H1 → PostE xx K q A H1 (f b s1) Q → Q' b H1) : rdT xx K m σ H Q' := by
  refine ⟨q, A, ρ, s, x, ?_⟩
  unfold M.bind at h
  cases e : m ρ s with
  | ok d s1 =>
    rw [e] at h
    intro H1 k d1
    exact hf d s1 H1 (x.go k d1) k (PostE.weak h k)
  | exc y s' =>
    rw [e] at h
    exact h
  | no =>
    rw [e] at h
    exact h
theorem seqTX {α : Type} {m : Env → M Bool} {f : Bool → M α} {Q : α → Hp → Prop} {Q' : Bool → Hp → Prop} (x : St0 K q A σ ρ H s) (h : PostX xx K q A H (M.bind (m ρ) f s) Q)
    (hf : ∀ b s1 H1, St0 K q A σ ρ H1 s1 → Keep q H H1 → PostX xx K q A H1 (f b s1) Q → Q' b H1) : rdT xx K m σ H Q' := by
  refine ⟨q, A, ρ, s, x, ?_⟩
  unfold M.bind at h
  cases e : m ρ s with
  | ok d s1 =>
    rw [e] at h
    intro H1 k d1
    exact hf d s1 H1 (x.go k d1) k (PostX.weak h k)
  | exc y s' =>
    rw [e] at h
    exact h
  | no =>
    rw [e] at h
    exact h
theorem seqO {m : Env → M (Option Int)} {f : Option Int → M D} {Q : VK} {Q' : Option Int → Hp → Prop} (x : St0 K q A σ ρ H s) (h : PostE xx K q A H (M.bind (m ρ) f s) Q)
    (hf : ∀ b s1 H1, St0 K q A σ ρ H1 s1 → Keep q H H1 → PostE xx K q A H1 (f b s1) Q → Q' b H1) : rdO xx K m σ H Q' := by
  refine ⟨q, A, ρ, s, x, ?_⟩
  unfold M.bind at h
  cases e : m ρ s with
  | ok d s1 =>
    rw [e] at h
    intro H1 k d1
    exact hf d s1 H1 (x.go k d1) k (PostE.weak h k)
  | exc y s' =>
    rw [e] at h
    exact h
  | no =>
    rw [e] at h
    exact h
/-- an option at the end -/
theorem optE {o : Option D} {Q : VK} (h : PostE xx K q A H (M.opt o s) Q) : ∃ d, o = some d ∧ ∀ v H', Keep q H H' → Dc q H' s → Rep K q A H' v d → Q v H' := by
  cases o with
  | none => exact h.elim
  | some d => exact ⟨d, rfl, h⟩
theorem optX {α : Type} {o : Option α} {Q : α → Hp → Prop} (h : PostX xx K q A H (M.opt o s) Q) : ∃ d, o = some d ∧ ∀ H', Keep q H H' → Dc q H' s → Q d H' := by
  cases o with
  | none => exact h.elim
  | some d => exact ⟨d, rfl, h⟩
theorem optB {α : Type} {o : Option α} {f : α → M D} {Q : VK} (h : PostE xx K q A H (M.bind (M.opt o) f s) Q) : ∃ d, o = some d ∧ PostE xx K q A H (f d s) Q := by
  cases o with
  | none => exact h.elim
  | some d => exact ⟨d, rfl, h⟩
theorem optBX {α β : Type} {o : Option α} {f : α → M β} {Q : β → Hp → Prop} (h : PostX xx K q A H (M.bind (M.opt o) f s) Q) : ∃ d, o = some d ∧ PostX xx K q A H (f d s) Q := by
  cases o with
  | none => exact h.elim
  | some d => exact ⟨d, rfl, h⟩
end
end Ev

/-! Ev3: operators, comparisons, built-ins, methods. -/
namespace Ev
open PySem L2 PyProof.Rows

section
variable {K : PySem.W.Frag} {q : Addr} {A : Addr → Prop} {H : Hp} {v : V}
theorem rep_non : Rep K q A H v .non = (v = .non) := by rw [Rep]
theorem rep_bl {b} : Rep K q A H v (.bl b) = (v = .bl b) := by rw [Rep]
theorem rep_int {b} : Rep K q A H v (.int b) = (v = .int b) := by rw [Rep]
theorem rep_str {s} : Rep K q A H v (.str s) = (v = .str (strOf s) ∧ s.all (fun c => decide (c < 1114112)) = true) := by rw [Rep]
theorem rep_tup {xs} : Rep K q A H v (.tup xs) = (∃ p vs, v = .ref p ∧ SqT K H p vs ∧ Reps K q A H vs xs) := by rw [Rep]
theorem rep_lst {xs} : Rep K q A H v (.lst xs) = (∃ p vs, v = .ref p ∧ ¬ A p ∧ H p = some (.lst vs) ∧ Reps K q A H vs xs) := by rw [Rep]
theorem rep_dct {ks ds} : Rep K q A H v (.dct ks ds) = (∃ p ws, v = .ref p ∧ ¬ A p ∧ H p = some (.dK (ks.zip ws)) ∧ ks.length = ws.length ∧ Reps K q A H ws ds) := by rw [Rep]
theorem rep_ty {n} : Rep K q A H v (.ty n) = (v = .ty n) := by rw [Rep]
theorem rep_opq {a} : Rep K q A H v (.opq a) = (v = .ref a) := by rw [Rep]
theorem rep_dice : Rep K q A H v .dice = (v = .ref q) := by rw [Rep]
theorem reps1 {d : D} {vs : List V} (h : Reps K q A H vs [d]) : ∃ v, vs = [v] ∧ Rep K q A H v d := by
  match vs, h with
  | [v], h =>
    unfold Reps at h
    exact ⟨v, rfl, h.1⟩
  | [], h => unfold Reps at h; exact h.elim
  | _ :: _ :: _, h => unfold Reps at h; obtain ⟨_, h⟩ := h; unfold Reps at h; exact h.elim
theorem reps2 {d e : D} {vs : List V} (h : Reps K q A H vs [d, e]) : ∃ v w, vs = [v, w] ∧ Rep K q A H v d ∧ Rep K q A H w e := by
  match vs, h with
  | v :: r, h =>
    unfold Reps at h
    obtain ⟨w, rfl, h2⟩ := reps1 h.2
    exact ⟨v, w, rfl, h.1, h2⟩
  | [], h => unfold Reps at h; exact h.elim
theorem reps0 {vs : List V} (h : Reps K q A H vs []) : vs = [] := by
  match vs, h with
  | [], _ => rfl
  | _ :: _, h => unfold Reps at h; exact h.elim
theorem strOf_len (s : List Nat) : (strOf s).length = s.length := by simp [strOf, Str.length]
theorem strOf_app (a b : List Nat) : strOf a ++ strOf b = strOf (a ++ b) := by
  show Str.append _ _ = _
  simp [Str.append, strOf]
theorem strOf_inj {a b : List Nat} (h : strOf a = strOf b) : a = b := by
  have := congrArg (fun z : Str => z.cps.toList) h
  simpa [strOf] using this
theorem strOf_list (a : List Nat) : (strOf a).cps.toList = a := by simp [strOf]
theorem strOf_of (z : Str) : strOf z.cps.toList = z := by cases z; simp [strOf]
theorem lim_le : lim ≤ sizeLine := by decide
end

/-- an operation on values that does what f tells of data -/
def OpS (X : Cx) (g : Value → Value → Sem Value) (f : D → D → Option D) : Prop :=
  ∃ r, OpR X g r ∧ ∀ (q : Addr) (A : Addr → Prop) (σ : L2.St) (ρ : Env) (H : Hp) (s : S) (x y z : D) (v w : V) (Q : VK), St0 X.K q A σ ρ H s → f x y = some z → Rep X.K q A H v x → Rep X.K q A H w y →
    (∀ u H', Keep q H H' → Dc q H' s → Rep X.K q A H' u z → Q u H') → r v w H Q
section
variable {X : Cx}
theorem OpS.or {g : Value → Value → Sem Value} {f1 f2 f : D → D → Option D} (h1 : OpS X g f1) (h2 : OpS X g f2) (h : ∀ x y z, f x y = some z → f1 x y = some z ∨ f2 x y = some z) : OpS X g f := by
  obtain ⟨r1, o1, k1⟩ := h1
  obtain ⟨r2, o2, k2⟩ := h2
  refine ⟨_, o1.or o2, fun q A σ ρ H s x y z v w Q st e rx ry k => ?_⟩
  rcases h x y z e with e | e
  · exact .inl (k1 q A σ ρ H s x y z v w Q st e rx ry k)
  · exact .inr (k2 q A σ ρ H s x y z v w Q st e rx ry k)
theorem OpS.imp {g : Value → Value → Sem Value} {f1 f : D → D → Option D} (h1 : OpS X g f1) (h : ∀ x y z, f x y = some z → f1 x y = some z) : OpS X g f := by
  obtain ⟨r1, o1, k1⟩ := h1
  exact ⟨_, o1, fun q A σ ρ H s x y z v w Q st e rx ry k => k1 q A σ ρ H s x y z v w Q st (h x y z e) rx ry k⟩
theorem OpS.none {g : Value → Value → Sem Value} : OpS X g (fun _ _ => Option.none) :=
  ⟨fun _ _ _ _ => False, fun _ _ _ _ _ _ _ _ _ _ _ _ h => h.elim, fun q A σ ρ H s x y z v w Q st e => nomatch e⟩
/-- a pure op of two ints -/
def fI (C : Int → Int → Bool) (g : Int → Int → Int) : D → D → Option D := fun x y => match x, y with
  | .int i, .int j => if C i j then some (.int (g i j)) else Option.none
  | _, _ => Option.none
theorem ops_I {g : Value → Value → Sem Value} {C : Int → Int → Prop} {B : Int → Int → Bool} {f : Int → Int → Int} (h : OpR X g (rI C fun i j => .int (f i j))) (hB : ∀ i j, B i j = true → C i j) : OpS X g (fI B f) := by
  refine ⟨_, h, fun q A σ ρ H s x y z v w Q st e rx ry k => ?_⟩
  cases x <;> cases y <;> simp only [fI] at e <;> try (cases e)
  rename_i i j
  split at e
  · rename_i hb
    cases e
    rw [rep_int] at rx ry
    exact ⟨i, j, rx, ry, hB i j hb, k _ _ Keep.refl st.dc (by rw [rep_int])⟩
  · cases e
theorem rI_of {g : Value → Value → Sem Value} {f : Int → Int → V} (h : OpR X g (rI0 f)) : OpR X g (rI (fun _ _ => True) f) := fun pins s σ H x y v u Q I rx ry ⟨i, j, e1, e2, _, q⟩ => h pins s σ H x y v u Q I rx ry ⟨i, j, e1, e2, q⟩

/-! ### + -/
def fAddS : D → D → Option D := fun x y => match x, y with
  | .str a, .str b => if a.length + b.length ≤ lim then some (.str (a ++ b)) else Option.none
  | _, _ => Option.none
theorem ops_addS : OpS X (binaryOp .Add) fAddS := by
  refine ⟨_, op_add_str, fun q A σ ρ H s x y z v w Q st e rx ry k => ?_⟩
  cases x <;> cases y <;> simp only [fAddS] at e <;> try (cases e)
  rename_i a b
  split at e
  · rename_i hb
    cases e
    rw [rep_str] at rx ry
    refine ⟨_, _, rx.1, ry.1, by rw [strOf_len, strOf_len]; exact Nat.le_trans hb lim_le, ?_⟩
    rw [strOf_app]
    exact k _ _ Keep.refl st.dc (by rw [rep_str]; exact ⟨rfl, by rw [List.all_append, rx.2, ry.2]; rfl⟩)
  · cases e
def fAddL : D → D → Option D := fun x y => match x, y with
  | .lst a, .lst b => if a.length + b.length ≤ lim then some (.lst (a ++ b)) else Option.none
  | _, _ => Option.none
theorem new_lst {K : PySem.W.Frag} {q : Addr} {A : Addr → Prop} {σ : L2.St} {ρ : Env} {H : Hp} {s : S} {Q : VK} {ds : List D} {vs : List V} {p : Addr} (st : St0 K q A σ ρ H s) (h : H p = none) (r : Reps K q A H vs ds)
    (k : ∀ u H', Keep q H H' → Dc q H' s → Rep K q A H' u (.lst ds) → Q u H') : Q (.ref p) (upd H p (.lst vs)) := by
  have kp : Keep q H (upd H p (.lst vs)) := Keep.new h
  refine k _ _ kp (st.dc.upd h) ?_
  rw [rep_lst]
  exact ⟨p, vs, rfl, st.fresh h, upd_same, Reps.mono (kp.mono st.aq st.dc) ds vs r⟩
theorem new_tup {K : PySem.W.Frag} {q : Addr} {A : Addr → Prop} {σ : L2.St} {ρ : Env} {H : Hp} {s : S} {Q : VK} {ds : List D} {vs : List V} {p : Addr} (st : St0 K q A σ ρ H s) (h : H p = none) (r : Reps K q A H vs ds)
    (k : ∀ u H', Keep q H H' → Dc q H' s → Rep K q A H' u (.tup ds) → Q u H') : Q (.ref p) (upd H p (.tup vs)) := by
  have kp : Keep q H (upd H p (.tup vs)) := Keep.new h
  refine k _ _ kp (st.dc.upd h) ?_
  rw [rep_tup]
  exact ⟨p, vs, rfl, SqT.of upd_same, Reps.mono (kp.mono st.aq st.dc) ds vs r⟩
theorem ops_addL : OpS X (binaryOp .Add) fAddL := by
  refine ⟨_, op_cat, fun q A σ ρ H s x y z v w Q st e rx ry k => ?_⟩
  cases x <;> cases y <;> simp only [fAddL] at e <;> try (cases e)
  rename_i a b
  split at e
  · rename_i hb
    cases e
    rw [rep_lst] at rx ry
    obtain ⟨p, vs, rfl, np, hp, r1⟩ := rx
    obtain ⟨p2, ws, rfl, np2, hp2, r2⟩ := ry
    exact ⟨p, p2, vs, ws, rfl, rfl, hp, hp2, by rw [r1.length, r2.length]; exact Nat.le_trans hb lim_le, fun p' h' => new_lst st h' (r1.append r2) k⟩
  · cases e
def fAddT : D → D → Option D := fun x y => match x, y with
  | .tup a, .tup b => if a.length + b.length ≤ lim then (match a with
      | [] => Option.none
      | _ :: _ => some (.tup (a ++ b))) else Option.none
  | _, _ => Option.none
theorem ops_addT : OpS X (binaryOp .Add) fAddT := by
  refine ⟨_, op_catT, fun q A σ ρ H s x y z v w Q st e rx ry k => ?_⟩
  cases x <;> cases y <;> simp only [fAddT] at e <;> try (cases e)
  rename_i a b
  split at e
  · rename_i hb
    cases a with
    | nil => cases e
    | cons a1 a2 =>
      cases e
      rw [rep_tup] at rx ry
      obtain ⟨p, vs, rfl, hp, r1⟩ := rx
      obtain ⟨p2, ws, rfl, hp2, r2⟩ := ry
      refine ⟨p, p2, vs, ws, rfl, rfl, hp, hp2, fun z => ?_, by rw [r1.length, r2.length]; exact Nat.le_trans hb lim_le, fun z => ?_, fun _ p' h' => new_tup st h' (r1.append r2) k⟩
      · have := r1.length
        rw [z] at this
        cases this
      · have := r2.length
        rw [z] at this
        have hb0 : b = [] := List.eq_nil_of_length_eq_zero this.symm
        subst hb0
        refine k _ _ Keep.refl st.dc ?_
        rw [rep_tup]
        exact ⟨p, vs, rfl, hp, by rw [List.append_nil]; exact r1⟩
  · cases e
theorem ops_add : OpS X (binaryOp .Add) (binD .Add) := by
  refine OpS.or (ops_I (B := fun _ _ => true) (rI_of op_add) (fun _ _ _ => trivial)) (OpS.or ops_addS (OpS.or ops_addL ops_addT (f := fun x y => match x, y with
    | .lst a, .lst b => fAddL (.lst a) (.lst b)
    | .tup a, .tup b => fAddT (.tup a) (.tup b)
    | _, _ => Option.none) ?_) (f := fun x y => match x, y with
    | .str a, .str b => fAddS (.str a) (.str b)
    | .lst a, .lst b => fAddL (.lst a) (.lst b)
    | .tup a, .tup b => fAddT (.tup a) (.tup b)
    | _, _ => Option.none) ?_) ?_
  · intro x y z e
    cases x <;> cases y <;> first | exact .inl e | exact .inr e | cases e
  · intro x y z e
    cases x <;> cases y <;> first | exact .inl e | exact .inr e | cases e
  · intro x y z e
    cases x <;> cases y <;> first | exact .inl e | exact .inr e | cases e
/-! ### the other operators -/
def rMulS : R2 := fun x y H Q => ∃ (a : Str) (j : Int), x = .str a ∧ y = .int j ∧ -1000000 < j ∧ j < 1000000 ∧ a.length * j.toNat ≤ lim ∧ Q (.str ⟨((List.replicate j.toNat a.cps.toList).flatten).toArray⟩) H
theorem foldl_cps (a : List Nat) : ∀ (k : Nat) (acc : List Nat), (List.replicate k a.toArray).foldl (fun x1 x2 => x1 ++ x2) acc.toArray = (acc ++ (List.replicate k a).flatten).toArray
  | 0, acc => by simp
  | k + 1, acc => by
    rw [List.replicate_succ, List.replicate_succ, List.foldl_cons, List.append_toArray, foldl_cps a k (acc ++ a), List.flatten_cons, List.append_assoc]
theorem op_mulS : OpR X (binaryOp .Mult) rMulS := by
  intro pins s σ H x y v u Q I rx ry h
  obtain ⟨a, j, rfl, rfl, h1, h2, h3, k⟩ := h
  obtain ⟨t, rfl⟩ := rx
  obtain ⟨t', rfl⟩ := ry
  have hlen : ∀ n : Nat, 0 < n → a.length ≤ a.length * n := fun n hn => Nat.le_mul_of_pos_right _ hn
  refine P.mul_str ?_ ?_ ?_ ?_
  · rw [decide_eq_false (by omega), decide_eq_false (by omega)]
    rfl
  · intro n1 n2 n3
    have hj : 0 < j := by omega
    have e : ((a.length : Nat) : Int) * j ≤ 1000000 := by
      have : ((a.length * j.toNat : Nat) : Int) ≤ 1000000 := by
        have h4 : a.length * j.toNat ≤ 1000000 := h3
        omega
      rw [Int.natCast_mul, Int.toNat_of_nonneg (by omega)] at this
      exact this
    have e2 : (2 ^ 63 - 1) / j ≥ 1000000000 := by
      refine (Int.le_ediv_iff_mul_le hj).mpr ?_
      omega
    have e3 : ((a.length : Nat) : Int) ≤ 1000000 := by
      have : ((a.length : Nat) : Int) * 1 ≤ ((a.length : Nat) : Int) * j := Int.mul_le_mul_of_nonneg_left (by omega) (by omega)
      omega
    omega
  · intro n1 n2
    unfold Builtin.Str.tooLong
    have : a.length * j.toNat ≤ 1000000 := h3
    simp only [decide_eq_false_iff_not]
    have hs : sizeLine = 16777216 := sizeLine_eq
    omega
  · by_cases hj : j < 1
    · rw [if_pos hj]
      have e : j.toNat = 0 := by omega
      rw [e] at k
      exact ⟨by decide, ⟨.str Str.empty, H, I.tok _, ⟨_, rfl⟩, k⟩⟩
    · rw [if_neg hj]
      by_cases hc : (j == 1 || a.length == 0) = true
      · rw [if_pos hc]
        refine ⟨.str a, H, I, ⟨_, rfl⟩, ?_⟩
        have e : (⟨((List.replicate j.toNat a.cps.toList).flatten).toArray⟩ : Str) = a := by
          rw [Bool.or_eq_true, beq_iff_eq, beq_iff_eq] at hc
          obtain ⟨c⟩ := a
          rcases hc with hc | hc
          · subst hc
            simp
          · have hz : c = #[] := Array.eq_empty_of_size_eq_zero hc
            subst hz
            simp
        rw [e] at k
        exact k
      · rw [if_neg hc]
        have e : (⟨(List.replicate j.toNat a.cps).foldl (fun x1 x2 => x1 ++ x2) #[]⟩ : Str) = ⟨((List.replicate j.toNat a.cps.toList).flatten).toArray⟩ := by
          have := foldl_cps a.cps.toList j.toNat []
          rw [List.nil_append] at this
          rw [← this]
        refine ⟨?_, ⟨.str _, H, I.tok _, ⟨_, rfl⟩, by rw [e]; exact k⟩⟩
        rw [e]
        show (List.flatten _).toArray.size ≤ sizeLine
        rw [List.size_toArray, lm_len_rep_flat, Nat.mul_comm]
        exact Nat.le_trans h3 lim_le
def fMulS : D → D → Option D := fun x y => match x, y with
  | .str a, .int j => if decide (j < 1000000) && decide (-1000000 < j) && decide (a.length * j.toNat ≤ lim) then some (.str (List.replicate j.toNat a).flatten) else Option.none
  | _, _ => Option.none
theorem ops_mulS : OpS X (binaryOp .Mult) fMulS := by
  refine ⟨_, op_mulS, fun q A σ ρ H s x y z v w Q st e rx ry k => ?_⟩
  cases x <;> cases y <;> simp only [fMulS] at e <;> try (cases e)
  rename_i a j
  split at e
  · rename_i hb
    cases e
    simp only [Bool.and_eq_true, decide_eq_true_eq] at hb
    rw [rep_str] at rx
    rw [rep_int] at ry
    refine ⟨_, _, rx.1, ry, hb.1.2, hb.1.1, by rw [strOf_len]; exact hb.2, ?_⟩
    refine k _ _ Keep.refl st.dc ?_
    rw [rep_str]
    refine ⟨by rw [strOf_list]; rfl, ?_⟩
    rw [List.all_eq_true]
    intro c hc
    obtain ⟨l, hl, hc⟩ := List.mem_flatten.mp hc
    rw [List.mem_replicate] at hl
    rw [hl.2] at hc
    exact List.all_eq_true.mp rx.2 c hc
  · cases e
def fMulT : D → D → Option D := fun x y => match x, y with
  | .tup a, .int j => if decide (2 ≤ j) && decide (j ≤ 1000) && decide (a.length ≤ 1000) && !a.isEmpty then some (.tup (List.replicate j.toNat a).flatten) else Option.none
  | _, _ => Option.none
theorem ops_mulT : OpS X (binaryOp .Mult) fMulT := by
  refine ⟨_, op_repT, fun q A σ ρ H s x y z v w Q st e rx ry k => ?_⟩
  cases x <;> cases y <;> simp only [fMulT] at e <;> try (cases e)
  rename_i a j
  split at e
  · rename_i hb
    cases e
    simp only [Bool.and_eq_true, decide_eq_true_eq, Bool.not_eq_true'] at hb
    rw [rep_tup] at rx
    rw [rep_int] at ry
    obtain ⟨p, vs, rfl, hp, r1⟩ := rx
    refine ⟨p, j, vs, rfl, ry, hp, fun z => ?_, hb.1.1.1, hb.1.1.2, by rw [r1.length]; exact hb.1.2, fun p' h' => new_tup st h' (r1.rep _) k⟩
    have := r1.length
    rw [z] at this
    have h0 : a = [] := List.eq_nil_of_length_eq_zero this.symm
    rw [h0] at hb
    cases hb.2
  · cases e
def fMulL : D → D → Option D := fun x y => match x, y with
  | .lst a, .int j => if decide (0 ≤ j) && decide (j ≤ 1000) && decide (a.length ≤ 1000) then some (.lst (List.replicate j.toNat a).flatten) else Option.none
  | _, _ => Option.none
theorem ops_mulL : OpS X (binaryOp .Mult) fMulL := by
  refine ⟨_, op_rep, fun q A σ ρ H s x y z v w Q st e rx ry k => ?_⟩
  cases x <;> cases y <;> simp only [fMulL] at e <;> try (cases e)
  rename_i a j
  split at e
  · rename_i hb
    cases e
    simp only [Bool.and_eq_true, decide_eq_true_eq] at hb
    rw [rep_lst] at rx
    rw [rep_int] at ry
    obtain ⟨p, vs, rfl, np, hp, r1⟩ := rx
    refine ⟨p, j, vs, rfl, ry, hp, by omega, by omega, ?_, fun p' h' => new_lst st h' (r1.rep _) k⟩
    rw [r1.length]
    refine Nat.le_trans (Nat.mul_le_mul hb.2 (show j.toNat ≤ 1000 by omega)) ?_
    rw [sizeLine_eq]
    decide
  · cases e
theorem ops_mul : OpS X (binaryOp .Mult) (binD .Mult) := by
  refine OpS.or (ops_I (B := fun i j => (decide (-(2 ^ 64) < i) && decide (i < 2 ^ 64)) || (decide (-(2 ^ 64) < j) && decide (j < 2 ^ 64))) (f := fun i j => i * j) op_mul (fun i j h => ?_)) (OpS.or ops_mulS (OpS.or ops_mulT ops_mulL (f := fun x y => match x, y with
    | .tup a, .int b => fMulT (.tup a) (.int b)
    | .lst a, .int b => fMulL (.lst a) (.int b)
    | _, _ => Option.none) ?_) (f := fun x y => match x, y with
    | .str a, .int b => fMulS (.str a) (.int b)
    | .tup a, .int b => fMulT (.tup a) (.int b)
    | .lst a, .int b => fMulL (.lst a) (.int b)
    | _, _ => Option.none) ?_) ?_
  · simp only [Bool.or_eq_true, Bool.and_eq_true, decide_eq_true_eq] at h
    exact h
  · intro x y z e
    cases x <;> cases y <;> first | exact .inl e | exact .inr e | cases e
  · intro x y z e
    cases x <;> cases y <;> first | exact .inl e | exact .inr e | cases e
  · intro x y z e
    cases x <;> cases y <;> first | exact .inl e | exact .inr e | cases e
theorem ops_sub : OpS X (binaryOp .Sub) (binD .Sub) :=
  (ops_I (B := fun _ _ => true) (f := fun i j => i - j) (rI_of op_sub) (fun _ _ _ => trivial)).imp fun x y z e => by cases x <;> cases y <;> first | exact e | cases e
theorem ops_mod : OpS X (binaryOp .Mod) (binD .Mod) :=
  (ops_I (B := fun _ j => decide (j ≠ 0)) (f := fun i j => i.fmod j) op_modN (fun _ j h => by simpa using h)).imp fun x y z e => by
    cases x <;> cases y <;> simp only [binD] at e <;> try (cases e)
    simp only [fI]
    split at e
    · cases e
    · rename_i h
      rw [if_pos (by simpa using h)]
      exact e
theorem ops_fdiv : OpS X (binaryOp .FloorDiv) (binD .FloorDiv) :=
  (ops_I (B := fun _ j => decide (j ≠ 0) && decide (j.natAbs < 1073741824)) (f := fun i j => i.fdiv j) op_fdivN (fun _ j h => by
    simp only [Bool.and_eq_true, decide_eq_true_eq] at h
    exact h)).imp fun x y z e => by cases x <;> cases y <;> first | exact e | cases e
theorem ops_pow : OpS X (binaryOp .Pow) (binD .Pow) :=
  (ops_I (B := fun i j => decide (0 ≤ j) && decide (j ≤ 1000) && decide (i.natAbs < 2 ^ 64)) (f := fun i j => i ^ j.toNat) op_pow (fun i j h => by
    simp only [Bool.and_eq_true, decide_eq_true_eq] at h
    exact ⟨h.1.1, by omega, h.2⟩)).imp fun x y z e => by cases x <;> cases y <;> first | exact e | cases e
theorem ops_bin (o : Operator) : OpS X (binaryOp o) (binD o) := by
  cases o
  · exact ops_add
  · exact ops_sub
  · exact ops_mul
  · exact OpS.none.imp fun x y z e => by cases x <;> cases y <;> cases e
  · exact OpS.none.imp fun x y z e => by cases x <;> cases y <;> cases e
  · exact ops_mod
  · exact ops_pow
  · exact OpS.none.imp fun x y z e => by cases x <;> cases y <;> cases e
  · exact OpS.none.imp fun x y z e => by cases x <;> cases y <;> cases e
  · exact OpS.none.imp fun x y z e => by cases x <;> cases y <;> cases e
  · exact OpS.none.imp fun x y z e => by cases x <;> cases y <;> cases e
  · exact OpS.none.imp fun x y z e => by cases x <;> cases y <;> cases e
  · exact ops_fdiv
end
end Ev

/-! Ev4: comparisons. -/
namespace Ev
open PySem L2 PyProof.Rows

/-! ### == -/
mutual
def toPD : D → PyData
  | .non => .none
  | .bl b => .bool b
  | .int i => .int i
  | .str s => .str (strOf s)
  | .lst xs => .list (toPDs xs)
  | .tup xs => .tuple (toPDs xs)
  | _ => .none
def toPDs : List D → List PyData
  | [] => []
  | x :: xs => toPD x :: toPDs xs
end
section
variable {K : PySem.W.Frag} {q : Addr} {A : Addr → Prop} {H : Hp}
mutual
theorem dp_of : ∀ (n : Nat) (d : D) (v : V), okD n d = true → Rep K q A H v d → Dp K H v (toPD d) ∧ (toPD d).canLay0 = true ∧ (toPD d).depth ≤ n
  | _, .non, v, _, h => by
    rw [rep_non] at h
    subst h
    unfold toPD
    exact ⟨.non, rfl, Nat.zero_le _⟩
  | _, .bl b, v, _, h => by
    rw [rep_bl] at h
    subst h
    unfold toPD
    exact ⟨.bl _, rfl, Nat.zero_le _⟩
  | _, .int b, v, _, h => by
    rw [rep_int] at h
    subst h
    unfold toPD
    exact ⟨.int _, rfl, Nat.zero_le _⟩
  | _, .str b, v, _, h => by
    rw [rep_str] at h
    obtain ⟨rfl, h⟩ := h
    unfold toPD
    refine ⟨.str _, ?_, Nat.zero_le _⟩
    unfold PyData.canLay0 PyData.strOk strOf
    simpa using h
  | 0, .lst xs, v, o, h => by unfold okD at o; cases o
  | 0, .tup xs, v, o, h => by unfold okD at o; cases o
  | n + 1, .lst xs, v, o, h => by
    unfold okD at o
    rw [rep_lst] at h
    obtain ⟨p, vs, rfl, _, hp, r⟩ := h
    obtain ⟨a, b, c⟩ := dps_of n xs vs o r
    unfold toPD
    refine ⟨.lst (SqL.of hp) a, ?_, ?_⟩
    · unfold PyData.canLay0
      exact b
    · unfold PyData.depth
      omega
  | n + 1, .tup xs, v, o, h => by
    unfold okD at o
    rw [rep_tup] at h
    obtain ⟨p, vs, rfl, hp, r⟩ := h
    obtain ⟨a, b, c⟩ := dps_of n xs vs o r
    unfold toPD
    refine ⟨.tup hp a, ?_, ?_⟩
    · unfold PyData.canLay0
      exact b
    · unfold PyData.depth
      omega
  | 0, .dct _ _, _, o, _ => by unfold okD at o; cases o
  | _ + 1, .dct _ _, _, o, _ => by unfold okD at o; cases o
  | 0, .ty _, _, o, _ => by unfold okD at o; cases o
  | _ + 1, .ty _, _, o, _ => by unfold okD at o; cases o
  | 0, .dice, _, o, _ => by unfold okD at o; cases o
  | _ + 1, .dice, _, o, _ => by unfold okD at o; cases o
  | 0, .opq _, _, o, _ => by unfold okD at o; cases o
  | _ + 1, .opq _, _, o, _ => by unfold okD at o; cases o
theorem dps_of : ∀ (n : Nat) (ds : List D) (vs : List V), okDs n ds = true → Reps K q A H vs ds → DpAll K H vs (toPDs ds) ∧ PyData.canLayAll0 (toPDs ds) = true ∧ PyData.depthAll (toPDs ds) ≤ n
  | n, [], vs, _, r => by
    have := reps0 r
    subst this
    unfold toPDs
    exact ⟨.nil, rfl, Nat.zero_le _⟩
  | n, d :: ds, [], _, r => by unfold Reps at r; exact r.elim
  | n, d :: ds, v :: vs, o, r => by
    unfold Reps at r
    unfold okDs at o
    rw [Bool.and_eq_true] at o
    obtain ⟨a, b, c⟩ := dp_of n d v o.1 r.1
    obtain ⟨a2, b2, c2⟩ := dps_of n ds vs o.2 r.2
    unfold toPDs
    refine ⟨.cons a a2, ?_, ?_⟩
    · unfold PyData.canLayAll0
      rw [b, b2]
      rfl
    · unfold PyData.depthAll
      omega
end
theorem beq_strOf (a b : List Nat) : (strOf a == strOf b) = (a == b) := by
  by_cases h : a = b
  · subst h; simp
  · have : strOf a ≠ strOf b := fun z => h (strOf_inj z)
    rw [beq_eq_false_iff_ne.mpr h, beq_eq_false_iff_ne.mpr this]
mutual
theorem eqv_of : ∀ (n m : Nat) (d e : D), okD n d = true → okD m e = true → PyData.eqv (toPD d) (toPD e) = eqD d e
  | n, m, .non, e, h1, h2 => by
    cases e <;> first | (unfold toPD eqD; first | rfl | (unfold toPD; rfl)) | (unfold okD at h2; cases h2)
  | n, m, .bl b, e, h1, h2 => by
    cases e <;> first | (unfold toPD eqD; first | rfl | (unfold toPD; rfl)) | (unfold okD at h2; cases h2)
  | n, m, .int b, e, h1, h2 => by
    cases e <;> first | (unfold toPD eqD; first | rfl | (unfold toPD; rfl)) | (unfold okD at h2; cases h2)
  | n, m, .str b, e, h1, h2 => by
    cases e <;> first | (unfold toPD eqD; first | rfl | exact beq_strOf _ _ | (unfold toPD; rfl)) | (unfold okD at h2; cases h2)
  | n + 1, m, .lst xs, e, h1, h2 => by
    unfold okD at h1
    cases e with
    | lst ys =>
      cases m with
      | zero => unfold okD at h2; cases h2
      | succ m =>
        unfold okD at h2
        unfold toPD eqD PyData.eqv
        exact eqvs_of n m xs ys h1 h2
    | _ => first | (unfold toPD eqD; first | rfl | (unfold toPD; rfl)) | (unfold okD at h2; cases h2)
  | n + 1, m, .tup xs, e, h1, h2 => by
    unfold okD at h1
    cases e with
    | tup ys =>
      cases m with
      | zero => unfold okD at h2; cases h2
      | succ m =>
        unfold okD at h2
        unfold toPD eqD PyData.eqv
        exact eqvs_of n m xs ys h1 h2
    | _ => first | (unfold toPD eqD; first | rfl | (unfold toPD; rfl)) | (unfold okD at h2; cases h2)
  | 0, m, .lst xs, e, h1, h2 => by unfold okD at h1; cases h1
  | 0, m, .tup xs, e, h1, h2 => by unfold okD at h1; cases h1
  | 0, _, .dct _ _, _, o, _ => by unfold okD at o; cases o
  | _ + 1, _, .dct _ _, _, o, _ => by unfold okD at o; cases o
  | 0, _, .ty _, _, o, _ => by unfold okD at o; cases o
  | _ + 1, _, .ty _, _, o, _ => by unfold okD at o; cases o
  | 0, _, .dice, _, o, _ => by unfold okD at o; cases o
  | _ + 1, _, .dice, _, o, _ => by unfold okD at o; cases o
  | 0, _, .opq _, _, o, _ => by unfold okD at o; cases o
  | _ + 1, _, .opq _, _, o, _ => by unfold okD at o; cases o
theorem eqvs_of : ∀ (n m : Nat) (ds es : List D), okDs n ds = true → okDs m es = true → PyData.eqvAll (toPDs ds) (toPDs es) = eqDs ds es
  | n, m, [], es, h1, h2 => by
    cases es with
    | nil => unfold toPDs eqDs; rfl
    | cons e es => unfold toPDs eqDs; rfl
  | n, m, d :: ds, es, h1, h2 => by
    cases es with
    | nil => unfold toPDs eqDs; rfl
    | cons e es =>
      unfold okDs at h1 h2
      rw [Bool.and_eq_true] at h1 h2
      unfold toPDs eqDs PyData.eqvAll
      rw [eqv_of n m d e h1.1 h2.1, eqvs_of n m ds es h1.2 h2.2]
end
end
section
variable {X : Cx}
abbrev cmpO (o : CmpOp) : D → D → Option D := fun x y => ofBool (cmpD o x y)
theorem ofBool_some {o : Option Bool} {z : D} (h : ofBool o = some z) : ∃ b, o = some b ∧ z = .bl b := by
  cases o with
  | none => cases h
  | some b => cases h; exact ⟨b, rfl, rfl⟩
theorem ops_eq (hu : X.A.units + 64 < cLine) : OpS X (compareOp .Eq) (cmpO .Eq) := by
  refine ⟨_, op_eqD hu, fun q A σ ρ H s x y z v w Q st e rx ry k => ?_⟩
  obtain ⟨b, e', rfl⟩ := ofBool_some e
  clear e
  have e := e'
  clear e'
  unfold cmpD at e
  simp only at e
  split at e
  · rename_i ho
    rw [Bool.and_eq_true] at ho
    cases e
    obtain ⟨a1, b1, c1⟩ := dp_of 60 x v ho.1 rx
    obtain ⟨a2, b2, c2⟩ := dp_of 60 y w ho.2 ry
    refine ⟨_, _, a1, a2, ?_, ?_, ?_⟩
    · unfold SeqAt.shaped; rw [b1, decide_eq_true (by omega)]; rfl
    · unfold SeqAt.shaped; rw [b2, decide_eq_true (by omega)]; rfl
    · rw [eqv_of 60 60 x y ho.1 ho.2]
      exact k _ _ Keep.refl st.dc (by rw [rep_bl])
  · cases e
theorem ops_ne (hu : X.A.units + 64 < cLine) : OpS X (compareOp .NotEq) (cmpO .NotEq) := by
  refine ⟨_, op_neD hu, fun q A σ ρ H s x y z v w Q st e rx ry k => ?_⟩
  obtain ⟨b, e', rfl⟩ := ofBool_some e
  clear e
  have e := e'
  clear e'
  unfold cmpD at e
  simp only at e
  split at e
  · rename_i ho
    rw [Bool.and_eq_true] at ho
    cases e
    obtain ⟨a1, b1, c1⟩ := dp_of 60 x v ho.1 rx
    obtain ⟨a2, b2, c2⟩ := dp_of 60 y w ho.2 ry
    refine ⟨_, _, a1, a2, ?_, ?_, ?_⟩
    · unfold SeqAt.shaped; rw [b1, decide_eq_true (by omega)]; rfl
    · unfold SeqAt.shaped; rw [b2, decide_eq_true (by omega)]; rfl
    · rw [eqv_of 60 60 x y ho.1 ho.2]
      exact k _ _ Keep.refl st.dc (by rw [rep_bl])
  · cases e
/-! ### orders -/
def fOrdI (f : Int → Int → Bool) : D → D → Option D := fun x y => match x, y with
  | .int i, .int j => some (.bl (f i j))
  | _, _ => Option.none
def fOrdS (f : List Nat → List Nat → Bool) : D → D → Option D := fun x y => match x, y with
  | .str i, .str j => some (.bl (f i j))
  | _, _ => Option.none
theorem ops_ordI {g : Value → Value → Sem Value} {f : Int → Int → Bool} (h : OpR X g (rI0 fun i j => .bl (f i j))) : OpS X g (fOrdI f) := by
  refine ⟨_, h, fun q A σ ρ H s x y z v w Q st e rx ry k => ?_⟩
  cases x <;> cases y <;> simp only [fOrdI] at e <;> cases e
  rw [rep_int] at rx ry
  exact ⟨_, _, rx, ry, k _ _ Keep.refl st.dc (by rw [rep_bl])⟩
theorem ops_ordS {g : Value → Value → Sem Value} {f : List Nat → List Nat → Bool} (h : OpR X g (fun x y H Q => ∃ i j, x = .str i ∧ y = .str j ∧ Q (.bl (f i.cps.toList j.cps.toList)) H)) : OpS X g (fOrdS f) := by
  refine ⟨_, h, fun q A σ ρ H s x y z v w Q st e rx ry k => ?_⟩
  cases x <;> cases y <;> simp only [fOrdS] at e <;> cases e
  rw [rep_str] at rx ry
  refine ⟨_, _, rx.1, ry.1, ?_⟩
  rw [strOf_list, strOf_list]
  exact k _ _ Keep.refl st.dc (by rw [rep_bl])
theorem ord_or {g : Value → Value → Sem Value} {o : CmpOp} {f1 : Int → Int → Bool} {f2 : List Nat → List Nat → Bool} (h1 : OpS X g (fOrdI f1)) (h2 : OpS X g (fOrdS f2)) {r : Ordering → Bool} (ho : ∀ x y, cmpD o x y = (ordD x y).map r)
    (e1 : ∀ i j : Int, r (if i < j then .lt else if j < i then .gt else .eq) = f1 i j) (e2 : ∀ i j : List Nat, r (if i < j then .lt else if j < i then .gt else .eq) = f2 i j) : OpS X g (cmpO o) := by
  refine OpS.or h1 h2 fun x y z e => ?_
  obtain ⟨b, e', rfl⟩ := ofBool_some e
  clear e
  have e := e'
  clear e'
  rw [ho] at e
  cases x <;> cases y <;> simp only [ordD] at e <;> try (cases e)
  · left
    simp only [fOrdI]
    rw [e1]
  · right
    simp only [fOrdS]
    rw [e2]
theorem natlist_asymm {i j : List Nat} (h : i < j) (h' : j < i) : False := List.lt_irrefl _ (List.lt_trans h h')
theorem ops_lt : OpS X (compareOp .Lt) (cmpO .Lt) := ord_or (ops_ordI op_lt) (ops_ordS (f := fun i j => decide (i < j)) op_lt_str) (r := (· == .lt)) (fun _ _ => rfl)
  (fun i j => by by_cases h : i < j <;> by_cases h' : j < i <;> simp [h, h']) (fun i j => by by_cases h : i < j <;> by_cases h' : j < i <;> simp [h, h'])
theorem ops_gt : OpS X (compareOp .Gt) (cmpO .Gt) := ord_or (ops_ordI op_gt) (ops_ordS (f := fun i j => decide (j < i)) op_gt_str) (r := (· == .gt)) (fun _ _ => rfl)
  (fun i j => by
    by_cases h : i < j <;> by_cases h' : j < i <;> simp [h, h']
    omega) (fun i j => by
    by_cases h : i < j <;> by_cases h' : j < i <;> simp [h, h']
    exact natlist_asymm h h')
theorem ops_le : OpS X (compareOp .LtE) (cmpO .LtE) := ord_or (ops_ordI op_le) (ops_ordS (f := fun i j => !decide (j < i)) op_le_str) (r := (· != .gt)) (fun _ _ => rfl)
  (fun i j => by
    by_cases h : j < i
    · have h1 : ¬ i < j := by omega
      have h2 : ¬ i ≤ j := by omega
      simp [h, h1]
    · have h2 : i ≤ j := by omega
      by_cases h1 : i < j <;> simp [h, h1, h2]) (fun i j => by
    by_cases h : i < j <;> by_cases h' : j < i <;> simp [h, h']
    exact natlist_asymm h h')
theorem ops_ge : OpS X (compareOp .GtE) (cmpO .GtE) := ord_or (ops_ordI op_ge) (ops_ordS (f := fun i j => !decide (i < j)) op_ge_str) (r := (· != .lt)) (fun _ _ => rfl)
  (fun i j => by
    by_cases h : i < j
    · have h2 : ¬ j ≤ i := by omega
      simp [h]
    · have h2 : j ≤ i := by omega
      by_cases h1 : j < i <;> simp [h, h1, h2]) (fun i j => by
    by_cases h : i < j <;> by_cases h' : j < i <;> simp [h, h'])
/-! ### in -/
theorem flat_rep {K : PySem.W.Frag} {q : Addr} {A : Addr → Prop} {H : Hp} {d : D} {v : V} (f : flatD d = true) (h : Rep K q A H v d) : flatV v = true := by
  cases d <;> first | cases f | skip
  · rw [rep_non] at h; subst h; rfl
  · rw [rep_bl] at h; subst h; rfl
  · rw [rep_int] at h; subst h; rfl
  · rw [rep_str] at h; rw [h.1]; rfl
theorem flats_rep {K : PySem.W.Frag} {q : Addr} {A : Addr → Prop} {H : Hp} : ∀ {ds : List D} {vs : List V}, ds.all flatD = true → Reps K q A H vs ds → vs.all flatV = true
  | [], vs, _, r => by rw [reps0 r]; rfl
  | d :: ds, [], _, r => by unfold Reps at r; exact r.elim
  | d :: ds, v :: vs, f, r => by
    unfold Reps at r
    rw [List.all_cons, Bool.and_eq_true] at f
    rw [List.all_cons, flat_rep f.1 r.1, flats_rep f.2 r.2]
    rfl
theorem eqV_rep {K : PySem.W.Frag} {q : Addr} {A : Addr → Prop} {H : Hp} {d e : D} {v w : V} (f : flatD d = true) (f' : flatD e = true) (h : Rep K q A H v d) (h' : Rep K q A H w e) : L2.eqV v w = eqD d e := by
  have hx : ∀ (d : D) (v : V), flatD d = true → Rep K q A H v d → v = (match d with
    | .bl b => .bl b
    | .int i => .int i
    | .str s => .str (strOf s)
    | _ => .non) := fun d v f h => by
    cases d <;> first | cases f | skip
    · rw [rep_non] at h; exact h
    · rw [rep_bl] at h; exact h
    · rw [rep_int] at h; exact h
    · rw [rep_str] at h; exact h.1
  rw [hx d v f h, hx e w f' h']
  clear h h' hx
  cases d <;> first | cases f | skip
  all_goals (cases e <;> first | cases f' | skip)
  all_goals (unfold eqD L2.eqV; first | rfl | exact beq_strOf _ _)
theorem inV_rep {K : PySem.W.Frag} {q : Addr} {A : Addr → Prop} {H : Hp} {x : D} {v : V} (f : flatD x = true) (h : Rep K q A H v x) : ∀ {ds : List D} {vs : List V}, ds.all flatD = true → Reps K q A H vs ds → inV v vs = eqEach x ds
  | [], vs, _, r => by rw [reps0 r]; rfl
  | d :: ds, [], _, r => by unfold Reps at r; exact r.elim
  | d :: ds, w :: vs, f2, r => by
    unfold Reps at r
    rw [List.all_cons, Bool.and_eq_true] at f2
    unfold eqEach
    rw [← inV_rep f h f2.2 r.2, ← eqV_rep f2.1 f r.1 h]
    unfold inV
    rw [List.any_cons]
def fIn (neg : Bool) : D → D → Option D := fun x y => match x, y with
  | x, .lst ys => if flatD x && ys.all flatD then some (.bl (if neg then !eqEach x ys else eqEach x ys)) else Option.none
  | x, .tup ys => if flatD x && ys.all flatD then some (.bl (if neg then !eqEach x ys else eqEach x ys)) else Option.none
  | _, _ => Option.none
theorem ops_inS {g : Value → Value → Sem Value} {neg : Bool} (h : OpR X g (rIn X.K neg)) : OpS X g (fIn neg) := by
  refine ⟨_, h, fun q A σ ρ H s x y z v w Q st e rx ry k => ?_⟩
  cases y <;> simp only [fIn] at e <;> try (cases e)
  · rename_i ys
    split at e
    · rename_i ho
      cases e
      rw [Bool.and_eq_true] at ho
      rw [rep_tup] at ry
      obtain ⟨p, vs, rfl, hp, r⟩ := ry
      refine ⟨p, vs, rfl, .inr hp, flat_rep ho.1 rx, flats_rep ho.2 r, ?_⟩
      rw [inV_rep ho.1 rx ho.2 r]
      exact k _ _ Keep.refl st.dc (by rw [rep_bl])
    · cases e
  · rename_i ys
    split at e
    · rename_i ho
      cases e
      rw [Bool.and_eq_true] at ho
      rw [rep_lst] at ry
      obtain ⟨p, vs, rfl, _, hp, r⟩ := ry
      refine ⟨p, vs, rfl, .inl (SqL.of hp), flat_rep ho.1 rx, flats_rep ho.2 r, ?_⟩
      rw [inV_rep ho.1 rx ho.2 r]
      exact k _ _ Keep.refl st.dc (by rw [rep_bl])
    · cases e
def fInC (neg : Bool) : D → D → Option D := fun x y => match x, y with
  | .str [c], .str z => some (.bl (if neg then !decide (c ∈ z) else decide (c ∈ z)))
  | _, _ => Option.none
theorem ops_inC {g : Value → Value → Sem Value} {neg : Bool} (h : OpR X g (fun x y H Q => ∃ (c : Nat) (z : Str), x = .str ⟨#[c]⟩ ∧ y = .str z ∧ Q (.bl (if neg then !decide (c ∈ z.cps.toList) else decide (c ∈ z.cps.toList))) H)) : OpS X g (fInC neg) := by
  refine ⟨_, h, fun q A σ ρ H s x y z v w Q st e rx ry k => ?_⟩
  match x, y, e with
  | .str [c], .str zz, e =>
    simp only [fInC] at e
    cases e
    rw [rep_str] at rx ry
    refine ⟨c, _, rx.1, ry.1, ?_⟩
    rw [strOf_list]
    exact k _ _ Keep.refl st.dc (by rw [rep_bl])
theorem ops_in : OpS X (compareOp .In) (cmpO .In) := by
  refine OpS.or (ops_inS (neg := false) op_in_seq) (ops_inC (neg := false) op_in_sign) fun x y z e => ?_
  obtain ⟨b, e', rfl⟩ := ofBool_some e
  clear e
  have e := e'
  clear e'
  simp only [cmpD] at e
  unfold inD at e
  split at e
  · cases e
    right
    rfl
  · left
    split at e
    · rename_i ho
      cases e
      simp only [fIn]
      rw [if_pos ho]
      rfl
    · cases e
  · left
    split at e
    · rename_i ho
      cases e
      simp only [fIn]
      rw [if_pos ho]
      rfl
    · cases e
  · cases e
theorem ops_notIn : OpS X (compareOp .NotIn) (cmpO .NotIn) := by
  refine OpS.or (ops_inS (neg := true) op_notIn_seq) (ops_inC (neg := true) op_notIn_sign) fun x y z e => ?_
  obtain ⟨b, e', rfl⟩ := ofBool_some e
  clear e
  have e := e'
  clear e'
  simp only [cmpD] at e
  unfold inD at e
  split at e
  · cases e
    right
    rfl
  · left
    split at e
    · rename_i ho
      cases e
      simp only [fIn]
      rw [if_pos ho]
      rfl
    · cases e
  · left
    split at e
    · rename_i ho
      cases e
      simp only [fIn]
      rw [if_pos ho]
      rfl
    · cases e
  · cases e
/-! ### is -/
def rIsX (neg : Bool) : R2 := fun x y H Q => (y = .non ∧ Q (.bl (if neg then !decide (x = .non) else decide (x = .non))) H) ∨ (∃ a b : Bool, x = .bl a ∧ y = .bl b ∧ Q (.bl (if neg then !decide (a = b) else decide (a = b))) H) ∨ (∃ b : Bool, x = .non ∧ y = .bl b ∧ Q (.bl neg) H)
theorem op_nonbl : OpR X (compareOp .Is) (fun x y H Q => ∃ b : Bool, x = .non ∧ y = .bl b ∧ Q (.bl false) H) := by
  intro pins s σ H x y v u Q I rx ry h
  obtain ⟨b, rfl, rfl, q⟩ := h
  cases (show v = Value.none from rx)
  cases (show u = Value.bool b from ry)
  exact wpAny_is_other rfl (fun z => nomatch z) ⟨.bl false, H, I, rfl, q⟩
theorem op_nonblN : OpR X (compareOp .IsNot) (fun x y H Q => ∃ b : Bool, x = .non ∧ y = .bl b ∧ Q (.bl true) H) := by
  intro pins s σ H x y v u Q I rx ry h
  obtain ⟨b, rfl, rfl, q⟩ := h
  cases (show v = Value.none from rx)
  cases (show u = Value.bool b from ry)
  exact wpAny_isNot_other rfl (fun z => nomatch z) ⟨.bl true, H, I, rfl, q⟩
theorem ops_isG {g : Value → Value → Sem Value} {neg : Bool} (h1 : OpR X g (fun x y H Q => y = .non ∧ Q (.bl (if neg then !decide (x = .non) else decide (x = .non))) H)) (h2 : OpR X g (fun x y H Q => ∃ a b : Bool, x = .bl a ∧ y = .bl b ∧ Q (.bl (if neg then !decide (a = b) else decide (a = b))) H))
    (h3 : OpR X g (fun x y H Q => ∃ b : Bool, x = .non ∧ y = .bl b ∧ Q (.bl neg) H)) : OpS X g (fun x y => ofBool ((isD x y).map fun b => if neg then !b else b)) := by
  refine ⟨_, h1.or (h2.or h3), fun q A σ ρ H s x y z v w Q st e rx ry k => ?_⟩
  obtain ⟨b, e', rfl⟩ := ofBool_some e
  clear e
  have e := e'
  clear e'
  have fin : ∀ c, c = b → Q (.bl c) H := fun c hc => by
    subst hc
    exact k _ _ Keep.refl st.dc (by rw [rep_bl])
  obtain ⟨b0, e0, e1⟩ := Option.map_eq_some_iff.mp e
  unfold isD at e0
  split at e0
  · rw [rep_bl] at rx ry
    rename_i a b'
    refine .inr (.inl ⟨a, b', rx, ry, fin _ ?_⟩)
    cases e0
    rw [← e1]
    cases a <;> cases b' <;> rfl
  · rw [rep_non] at rx ry
    refine .inl ⟨ry, fin _ ?_⟩
    cases e0
    rw [← e1, rx]
    cases neg <;> rfl
  · rw [rep_non] at rx
    rw [rep_bl] at ry
    refine .inr (.inr ⟨_, rx, ry, fin _ ?_⟩)
    cases e0
    rw [← e1]
    cases neg <;> rfl
  · rw [rep_bl] at rx
    rw [rep_non] at ry
    refine .inl ⟨ry, fin _ ?_⟩
    cases e0
    rw [← e1, rx]
    cases neg <;> rfl
  · rw [rep_int] at rx
    rw [rep_non] at ry
    refine .inl ⟨ry, fin _ ?_⟩
    cases e0
    rw [← e1, rx]
    cases neg <;> rfl
  · rw [rep_str] at rx
    rw [rep_non] at ry
    refine .inl ⟨ry, fin _ ?_⟩
    cases e0
    rw [← e1, rx.1]
    cases neg <;> rfl
  · rw [rep_tup] at rx
    rw [rep_non] at ry
    obtain ⟨p, _, rfl, _⟩ := rx
    refine .inl ⟨ry, fin _ ?_⟩
    cases e0
    rw [← e1]
    cases neg <;> rfl
  · rw [rep_lst] at rx
    rw [rep_non] at ry
    obtain ⟨p, _, rfl, _⟩ := rx
    refine .inl ⟨ry, fin _ ?_⟩
    cases e0
    rw [← e1]
    cases neg <;> rfl
  · cases e0
theorem ops_is : OpS X (compareOp .Is) (cmpO .Is) := (ops_isG (neg := false) op_isN op_isBl op_nonbl).imp fun x y z e => by
  obtain ⟨b, e', rfl⟩ := ofBool_some e
  clear e
  have e := e'
  clear e'
  simp only [cmpD] at e
  simp only [e]
  rfl
theorem ops_isNot : OpS X (compareOp .IsNot) (cmpO .IsNot) := (ops_isG (neg := true) op_notN op_notBl op_nonblN).imp fun x y z e => by
  obtain ⟨b, e', rfl⟩ := ofBool_some e
  clear e
  have e := e'
  clear e'
  simp only [cmpD] at e
  simp only [if_true, e]
  rfl
theorem ops_cmp (hu : X.A.units + 64 < cLine) (o : CmpOp) : OpS X (compareOp o) (cmpO o) := by
  cases o
  · exact ops_eq hu
  · exact ops_ne hu
  · exact ops_lt
  · exact ops_le
  · exact ops_gt
  · exact ops_ge
  · exact ops_is
  · exact ops_isNot
  · exact ops_in
  · exact ops_notIn
end
end Ev

/-! Ev5: truth, built-ins, methods, subscripts. -/
namespace Ev
open PySem L2 PyProof.Rows

section
variable {K : PySem.W.Frag} {q : Addr} {A : Addr → Prop} {H : Hp}
theorem tru_of {d : D} {b : Bool} {v : V} (h : truthD d = some b) (r : Rep K q A H v d) : TruV K v H b := by
  cases d <;> simp only [truthD] at h <;> try (cases h)
  · rw [rep_non] at r; subst r; exact rfl
  · rw [rep_bl] at r; subst r; exact rfl
  · rw [rep_int] at r; subst r; exact rfl
  · rename_i s
    rw [rep_str] at r
    rw [r.1]
    split at h
    · rename_i hl
      cases h
      refine ⟨by rw [strOf_len]; exact Nat.le_trans hl lim_le, ?_⟩
      rw [strOf_len]
      cases s <;> rfl
    · cases h
  · rename_i xs
    rw [rep_tup] at r
    obtain ⟨p, vs, rfl, hp, r⟩ := r
    refine .inr (.inl ⟨vs, hp, ?_⟩)
    have := r.length
    cases xs <;> cases vs <;> first | rfl | cases this
  · rename_i xs
    rw [rep_lst] at r
    obtain ⟨p, vs, rfl, _, hp, r⟩ := r
    refine .inl ⟨vs, SqL.of hp, ?_⟩
    have := r.length
    cases xs <;> cases vs <;> first | rfl | cases this
end

/-- a call on values that does what f tells of data -/
def CallS (X : Cx) (g : Value) (f : List D → Option D) : Prop :=
  ∃ r, CallR X g r ∧ ∀ (q : Addr) (A : Addr → Prop) (σ : L2.St) (ρ : Env) (H : Hp) (s : S) (ds : List D) (z : D) (vs : List V) (Q : VK), St0 X.K q A σ ρ H s → f ds = some z → Reps X.K q A H vs ds →
    (∀ u H', Keep q H H' → Dc q H' s → Rep X.K q A H' u z → Q u H') → r vs H Q
theorem CallR.or {X : Cx} {g : Value} {r1 r2 : List V → Hp → VK → Prop} (h1 : CallR X g r1) (h2 : CallR X g r2) : CallR X g (fun vs H Q => r1 vs H Q ∨ r2 vs H Q) := by
  intro pins s σ H xs us Q I r h
  rcases h with h | h
  · exact h1 pins s σ H xs us Q I r h
  · exact h2 pins s σ H xs us Q I r h
section
variable {X : Cx}
theorem cs_len : CallS X (.builtin "len") (biD .len) := by
  refine ⟨_, call_len, fun q A σ ρ H s ds z vs Q st e r k => ?_⟩
  match ds, e with
  | [.str t], e =>
    simp only [biD] at e
    split at e
    · rename_i hl
      cases e
      obtain ⟨v, rfl, r1⟩ := reps1 r
      rw [rep_str] at r1
      refine ⟨v, t.length, rfl, ?_, k _ _ Keep.refl st.dc (by rw [rep_int])⟩
      rw [r1.1]
      exact ⟨by rw [strOf_len]; exact Nat.le_trans hl lim_le, (strOf_len t).symm⟩
    · cases e
  | [.lst t], e =>
    simp only [biD] at e
    cases e
    obtain ⟨v, rfl, r1⟩ := reps1 r
    rw [rep_lst] at r1
    obtain ⟨p, ws, rfl, _, hp, r2⟩ := r1
    exact ⟨_, t.length, rfl, .inl ⟨ws, SqL.of hp, r2.length.symm⟩, k _ _ Keep.refl st.dc (by rw [rep_int])⟩
  | [.tup t], e =>
    simp only [biD] at e
    cases e
    obtain ⟨v, rfl, r1⟩ := reps1 r
    rw [rep_tup] at r1
    obtain ⟨p, ws, rfl, hp, r2⟩ := r1
    exact ⟨_, t.length, rfl, .inr ⟨ws, hp, r2.length.symm⟩, k _ _ Keep.refl st.dc (by rw [rep_int])⟩
theorem cs_abs : CallS X (.builtin "abs") (biD .abs) := by
  refine ⟨_, call_abs, fun q A σ ρ H s ds z vs Q st e r k => ?_⟩
  match ds, e with
  | [.int t], e =>
    simp only [biD] at e
    cases e
    obtain ⟨v, rfl, r1⟩ := reps1 r
    rw [rep_int] at r1
    subst r1
    exact ⟨t, rfl, k _ _ Keep.refl st.dc (by rw [rep_int])⟩
theorem cs_max2 (hc : X.calm = true) : CallS X (.builtin "max") (biD .max2) := by
  refine ⟨_, call_max2 hc, fun q A σ ρ H s ds z vs Q st e r k => ?_⟩
  match ds, e with
  | [.int i, .int j], e =>
    simp only [biD] at e
    cases e
    obtain ⟨v, w, rfl, r1, r2⟩ := reps2 r
    rw [rep_int] at r1 r2
    subst r1 r2
    exact ⟨i, j, rfl, k _ _ Keep.refl st.dc (by rw [rep_int])⟩
theorem cs_min2 (hc : X.calm = true) : CallS X (.builtin "min") (biD .min2) := by
  refine ⟨_, call_min2 hc, fun q A σ ρ H s ds z vs Q st e r k => ?_⟩
  match ds, e with
  | [.int i, .int j], e =>
    simp only [biD] at e
    cases e
    obtain ⟨v, w, rfl, r1, r2⟩ := reps2 r
    rw [rep_int] at r1 r2
    subst r1 r2
    exact ⟨i, j, rfl, k _ _ Keep.refl st.dc (by rw [rep_int])⟩
theorem cs_int : CallS X (.type "int") (biD .int_) := by
  refine ⟨_, CallR.or call_int1 call_int_str, fun q A σ ρ H s ds z vs Q st e r k => ?_⟩
  match ds, e with
  | [.int i], e =>
    simp only [biD] at e
    cases e
    obtain ⟨v, rfl, r1⟩ := reps1 r
    rw [rep_int] at r1
    subst r1
    exact .inl (.inl ⟨i, rfl, k _ _ Keep.refl st.dc (by rw [rep_int])⟩)
  | [.bl i], e =>
    simp only [biD] at e
    cases e
    obtain ⟨v, rfl, r1⟩ := reps1 r
    rw [rep_bl] at r1
    subst r1
    exact .inl (.inr ⟨i, rfl, k _ _ Keep.refl st.dc (by rw [rep_int])⟩)
  | [.str t], e =>
    simp only [biD] at e
    split at e
    · rename_i hl
      obtain ⟨n, e1, e2⟩ := Option.map_eq_some_iff.mp e
      cases e2
      obtain ⟨v, rfl, r1⟩ := reps1 r
      rw [rep_str] at r1
      rw [r1.1]
      exact .inr ⟨strOf t, n, rfl, e1, by rw [strOf_len]; exact hl, k _ _ Keep.refl st.dc (by rw [rep_int])⟩
    · cases e
theorem ofString_ok (z : String) : (Str.ofString z).cps.toList.all (fun c => decide (c < 1114112)) = true := by
  rw [Str.ofString_eq_toList]
  rw [List.all_eq_true]
  intro c hc
  simp only [List.mem_map] at hc
  obtain ⟨ch, _, rfl⟩ := hc
  have h := ch.valid
  simp only [UInt32.isValidChar, Nat.isValidChar] at h
  have e : ch.toNat = ch.val.toNat := rfl
  rw [e]
  simp only [decide_eq_true_eq]
  omega
theorem cs_str : CallS X (.type "str") (biD .str_) := by
  refine ⟨_, call_str_int, fun q A σ ρ H s ds z vs Q st e r k => ?_⟩
  match ds, e with
  | [.int i], e =>
    simp only [biD] at e
    split at e
    · rename_i hl
      cases e
      obtain ⟨v, rfl, r1⟩ := reps1 r
      rw [rep_int] at r1
      subst r1
      exact ⟨i, rfl, hl, k _ _ Keep.refl st.dc (by rw [rep_str, strOf_of]; exact ⟨rfl, ofString_ok _⟩)⟩
    · cases e
theorem tyX_of {K : PySem.W.Frag} {q : Addr} {A : Addr → Prop} {σ : L2.St} {ρ : Env} {H : Hp} {s : S} {d : D} {v : V} (st : St0 K q A σ ρ H s) (r : Rep K q A H v d) (h : ∀ n, d ≠ .ty n) (h' : ∀ n, d ≠ .opq n) : TyX K H v (.type (tyD d)) := by
  cases d
  · rw [rep_non] at r; subst r; exact .base .non
  · rw [rep_bl] at r; subst r; exact .base (.bl _)
  · rw [rep_int] at r; subst r; exact .base (.int _)
  · rw [rep_str] at r; rw [r.1]; exact .base (.str _)
  · rw [rep_tup] at r
    obtain ⟨p, ws, rfl, hp, _⟩ := r
    rcases hp with (hp | ⟨o, hp⟩) | ⟨o, its, n, hk, hc, _⟩
    · exact .base (.tup hp)
    · exact .fTuple hp
    · exact .kTuple hk hc
  · rw [rep_lst] at r
    obtain ⟨p, ws, rfl, _, hp, _⟩ := r
    exact .base (.lst hp)
  · rw [rep_dct] at r
    obtain ⟨p, ws, rfl, _, hp, _⟩ := r
    exact .base (.dK hp)
  · exact (h _ rfl).elim
  · rw [rep_dice] at r
    subst r
    exact .base (.lst st.dc)
  · exact (h' _ rfl).elim
theorem kit_known {d : D} {n : String} {b : Bool} (h : isiD d n = some b) : kitB (tyD d) n = some b := by
  have key : ∀ a, a ∈ ["NoneType", "bool", "int", "str", "tuple", "list", "dict"] → ∀ n, n ∈ ["str", "int", "bool", "tuple", "list", "dict"] → kitB a n = some (a == n || (a == "bool" && n == "int")) := by decide +kernel
  have hn : ∀ n, knownTy n = true → n ∈ ["str", "int", "bool", "tuple", "list", "dict"] := fun n h => by
    unfold knownTy at h
    simp only [Bool.or_eq_true, beq_iff_eq] at h
    rcases h with ((((h | h) | h) | h) | h) | h <;> subst h <;> decide
  unfold isiD at h
  cases d <;> simp only at h <;> try (cases h)
  all_goals (
    split at h
    · rename_i hk
      cases h
      exact key _ (by simp [tyD]) _ (hn _ hk)
    · cases h)
theorem cs_isi : CallS X (.builtin "isinstance") (biD .isi) := by
  refine ⟨_, call_isi, fun q A σ ρ H s ds z vs Q st e r k => ?_⟩
  match ds, e with
  | [x, .ty n], e =>
    simp only [biD] at e
    obtain ⟨b, e1, e2⟩ := Option.map_eq_some_iff.mp e
    cases e2
    obtain ⟨v, w, rfl, r1, r2⟩ := reps2 r
    rw [rep_ty] at r2
    subst r2
    refine ⟨v, .ty n, _, _, b, rfl, .ty n, tyX_of st r1 (fun m hm => ?_) (fun m hm => ?_), kit_ty (kit_known e1), k _ _ Keep.refl st.dc (by rw [rep_bl])⟩
    all_goals (subst hm; cases e1)
theorem bools_of {K : PySem.W.Frag} {q : Addr} {A : Addr → Prop} {H : Hp} : ∀ {ds : List D} {bs : List Bool} {vs : List V}, boolsOf ds = some bs → Reps K q A H vs ds → vs = bs.map V.bl
  | [], bs, vs, e, r => by
    cases e
    rw [reps0 r]
    rfl
  | .bl b :: ds, bs, [], e, r => by unfold Reps at r; exact r.elim
  | .bl b :: ds, bs, v :: vs, e, r => by
    unfold Reps at r
    simp only [boolsOf] at e
    obtain ⟨cs, e1, e2⟩ := Option.map_eq_some_iff.mp e
    cases e2
    rw [rep_bl] at r
    rw [r.1, bools_of e1 r.2]
    rfl
theorem cs_all (hc : X.calm = true) : CallS X (.builtin "all") (biD .all_) := by
  refine ⟨_, cr_all hc, fun q A σ ρ H s ds z vs Q st e r k => ?_⟩
  match ds, e with
  | [.lst xs], e =>
    simp only [biD] at e
    obtain ⟨b, e1, e2⟩ := Option.map_eq_some_iff.mp e
    cases e2
    obtain ⟨v, rfl, r1⟩ := reps1 r
    rw [rep_lst] at r1
    obtain ⟨p, ws, rfl, _, hp, r2⟩ := r1
    have := bools_of e1 r2
    subst this
    exact ⟨p, b, rfl, SqL.of hp, k _ _ Keep.refl st.dc (by rw [rep_bl])⟩
theorem cs_any (hc : X.calm = true) : CallS X (.builtin "any") (biD .any_) := by
  refine ⟨_, cr_any hc, fun q A σ ρ H s ds z vs Q st e r k => ?_⟩
  match ds, e with
  | [.lst xs], e =>
    simp only [biD] at e
    obtain ⟨b, e1, e2⟩ := Option.map_eq_some_iff.mp e
    cases e2
    obtain ⟨v, rfl, r1⟩ := reps1 r
    rw [rep_lst] at r1
    obtain ⟨p, ws, rfl, _, hp, r2⟩ := r1
    have := bools_of e1 r2
    subst this
    exact ⟨p, b, rfl, SqL.of hp, k _ _ Keep.refl st.dc (by rw [rep_bl])⟩
theorem cs_tuple : CallS X (.type "tuple") (biD .tuple_) := by
  refine ⟨_, call_tuple_of, fun q A σ ρ H s ds z vs Q st e r k => ?_⟩
  match ds, e with
  | [.lst xs], e =>
    simp only [biD] at e
    cases e
    obtain ⟨v, rfl, r1⟩ := reps1 r
    rw [rep_lst] at r1
    obtain ⟨p, ws, rfl, _, hp, r2⟩ := r1
    exact ⟨p, ws, rfl, .inl ⟨SqL.of hp, fun l hl => new_tup st hl r2 k⟩⟩
  | [.tup xs], e =>
    simp only [biD] at e
    cases e
    obtain ⟨v, rfl, r1⟩ := reps1 r
    have r0 := r1
    rw [rep_tup] at r1
    obtain ⟨p, ws, rfl, hp, r2⟩ := r1
    exact ⟨p, ws, rfl, .inr ⟨hp, k _ _ Keep.refl st.dc r0⟩⟩
theorem cs_list : CallS X (.type "list") (biD .list_) := by
  refine ⟨_, call_list_of, fun q A σ ρ H s ds z vs Q st e r k => ?_⟩
  match ds, e with
  | [.lst xs], e =>
    simp only [biD] at e
    cases e
    obtain ⟨v, rfl, r1⟩ := reps1 r
    rw [rep_lst] at r1
    obtain ⟨p, ws, rfl, _, hp, r2⟩ := r1
    exact ⟨p, ws, rfl, .inl (SqL.of hp), fun l hl => new_lst st hl r2 k⟩
  | [.tup xs], e =>
    simp only [biD] at e
    cases e
    obtain ⟨v, rfl, r1⟩ := reps1 r
    rw [rep_tup] at r1
    obtain ⟨p, ws, rfl, hp, r2⟩ := r1
    exact ⟨p, ws, rfl, .inr hp, fun l hl => new_lst st hl r2 k⟩
theorem cs_reprB : CallS X (.builtin "repr") (biD .reprB) := by
  have hr : CallR X (.builtin "repr") (fun xs H Q => ∃ b, xs = [.bl b] ∧ Q (.str (if b then "True" else "False")) H) := by
    intro pins s σ H xs us Q I r h
    obtain ⟨b, rfl, k⟩ := h
    obtain ⟨u, rfl, r'⟩ := vals1 r
    cases (show u = Value.bool b from r')
    refine PySem.P.repr_of_bool (Q := EP X pins σ Q) ?_
    exact ⟨.str _, H, I.tok _, ⟨_, rfl⟩, k⟩
  refine ⟨_, hr, fun q A σ ρ H s ds z vs Q st e r k => ?_⟩
  match ds, e with
  | [.bl b], e =>
    simp only [biD] at e
    cases e
    obtain ⟨v, rfl, r1⟩ := reps1 r
    rw [rep_bl] at r1
    subst r1
    refine ⟨b, rfl, k _ _ Keep.refl st.dc ?_⟩
    rw [rep_str]
    cases b <;> refine ⟨?_, ?_⟩ <;> decide +kernel
end
/-- a built-in: its name, what stands there, whether it is a class -/
def Bi.name : Bi → Str × String × Bool
  | .len => ("len", "len", false)
  | .abs => ("abs", "abs", false)
  | .max2 => ("max", "max", false)
  | .min2 => ("min", "min", false)
  | .int_ => ("int", "int", true)
  | .str_ => ("str", "str", true)
  | .isi => ("isinstance", "isinstance", false)
  | .all_ => ("all", "all", false)
  | .any_ => ("any", "any", false)
  | .tuple_ => ("tuple", "tuple", true)
  | .list_ => ("list", "list", true)
  | .reprB => ("repr", "repr", false)
theorem cs_bi {X : Cx} (hc : X.calm = true) (f : Bi) : CallS X (if f.name.2.2 then .type f.name.2.1 else .builtin f.name.2.1) (biD f) := by
  cases f
  · exact cs_len
  · exact cs_abs
  · exact cs_max2 hc
  · exact cs_min2 hc
  · exact cs_int
  · exact cs_str
  · exact cs_isi
  · exact cs_all hc
  · exact cs_any hc
  · exact cs_tuple
  · exact cs_list
  · exact cs_reprB
theorem boot_bi (f : Bi) : bootBuiltins f.name.1 = some (if f.name.2.2 then .type f.name.2.1 else .builtin f.name.2.1) := by
  cases f <;> decide +kernel
theorem bi_name (f : Bi) : f.name.1 ≠ "__name__" ∧ (f.name.1 == ("__debug__" : Str)) = false := by
  cases f <;> decide +kernel
/-! ### methods of texts -/
def MtS (X : Cx) (id : String) (f : D → List D → Option D) : Prop :=
  ∃ r, MtR X id r ∧ ∀ (q : Addr) (A : Addr → Prop) (σ : L2.St) (ρ : Env) (H : Hp) (s : S) (x : D) (ds : List D) (z : D) (v : V) (vs : List V) (Q : VK), St0 X.K q A σ ρ H s → f x ds = some z → Rep X.K q A H v x → Reps X.K q A H vs ds →
    (∀ u H', Keep q H H' → Dc q H' s → Rep X.K q A H' u z → Q u H') → r v vs H Q
section
variable {X : Cx}
theorem strs_of {K : PySem.W.Frag} {q : Addr} {A : Addr → Prop} {H : Hp} : ∀ {ds : List D} {ss : List (List Nat)} {vs : List V}, strsOf ds = some ss → Reps K q A H vs ds → vs = (ss.map strOf).map V.str ∧ ss.all (fun t => t.all (fun c => decide (c < 1114112))) = true
  | [], ss, vs, e, r => by
    cases e
    rw [reps0 r]
    exact ⟨rfl, rfl⟩
  | .str b :: ds, ss, [], e, r => by unfold Reps at r; exact r.elim
  | .str b :: ds, ss, v :: vs, e, r => by
    unfold Reps at r
    simp only [strsOf] at e
    obtain ⟨cs, e1, e2⟩ := Option.map_eq_some_iff.mp e
    cases e2
    rw [rep_str] at r
    obtain ⟨h1, h2⟩ := strs_of e1 r.2
    rw [r.1.1, h1]
    refine ⟨rfl, ?_⟩
    rw [List.all_cons, r.1.2, h2]
    rfl
theorem joinL_ok {p : Nat → Bool} {sep : List Nat} (hs : sep.all p = true) : ∀ {ss : List (List Nat)}, ss.all (fun t => t.all p) = true → (joinL sep ss).all p = true
  | [], _ => rfl
  | [x], h => by
    rw [List.all_cons, Bool.and_eq_true] at h
    exact h.1
  | x :: y :: r, h => by
    rw [List.all_cons, Bool.and_eq_true] at h
    show (x ++ (sep ++ TL.joinL sep (y :: r))).all p = true
    rw [List.all_append, List.all_append, h.1, hs, joinL_ok hs h.2]
    rfl
theorem join_strOf (sep : List Nat) (ss : List (List Nat)) : Txt.join (strOf sep) (ss.map strOf) = strOf (joinL sep ss) := by
  rw [TL.join_eq]
  apply TL.ext_tl
  rw [TL.tl_join, List.map_map]
  show TL.joinL sep _ = joinL sep ss
  have : (TL.tl ∘ strOf) = id := by
    funext a
    exact strOf_list a
  rw [this, List.map_id]
theorem ms_join : MtS X "str.join" joinD := by
  refine ⟨_, mt_join, fun q A σ ρ H s x ds z v vs Q st e rx r k => ?_⟩
  have key : ∀ (t : List Nat) (xs : List D) (p : Addr) (ws : List V), Rep X.K q A H v (.str t) → Reps X.K q A H ws xs → (SqL X.K H p ws ∨ SqT X.K H p ws) → vs = [.ref p] → ((strsOf xs).bind fun zs => if (zs.map List.length).sum + zs.length * t.length ≤ lim then some (D.str (joinL t zs)) else none) = some z →
      ∃ a p, ∃ ys : List Str, v = .str a ∧ vs = [.ref p] ∧ (SqL X.K H p (ys.map V.str) ∨ SqT X.K H p (ys.map V.str)) ∧ (ys.map (·.length)).sum + ys.length * a.length ≤ 16777216 ∧ Q (.str (Txt.join a ys)) H := fun t xs p ws rx r2 hp hv e => by
    obtain ⟨zs, e1, e2⟩ := Option.bind_eq_some_iff.mp e
    split at e2
    · rename_i hl
      cases e2
      obtain ⟨h1, h2⟩ := strs_of e1 r2
      rw [rep_str] at rx
      subst h1
      refine ⟨strOf t, p, zs.map strOf, rx.1, hv, hp, ?_, ?_⟩
      · rw [List.map_map, List.length_map, strOf_len]
        have : ((fun z : Str => z.length) ∘ strOf) = List.length := by
          funext a
          exact strOf_len a
        rw [this]
        exact Nat.le_trans hl (by decide)
      · rw [join_strOf]
        refine k _ _ Keep.refl st.dc ?_
        rw [rep_str]
        exact ⟨rfl, joinL_ok rx.2 h2⟩
    · cases e2
  match x, ds, e with
  | .str t, [.lst xs], e =>
    simp only [joinD] at e
    obtain ⟨w, rfl, r1⟩ := reps1 r
    rw [rep_lst] at r1
    obtain ⟨p, ws, rfl, _, hp, r2⟩ := r1
    exact key t xs p ws rx r2 (.inl (SqL.of hp)) rfl e
  | .str t, [.tup xs], e =>
    simp only [joinD] at e
    obtain ⟨w, rfl, r1⟩ := reps1 r
    rw [rep_tup] at r1
    obtain ⟨p, ws, rfl, hp, r2⟩ := r1
    exact key t xs p ws rx r2 (.inr hp) rfl e
end
/-- a method: its name, its builtin -/
def Mt.name : Mt → Str × String
  | .join => ("join", "str.join")
  | .lower => ("lower", "str.lower")
  | .upper => ("upper", "str.upper")
  | .strip => ("strip", "str.strip")
  | .lstrip => ("lstrip", "str.lstrip")
  | .rstrip => ("rstrip", "str.rstrip")
  | .split => ("split", "str.split")
  | .startswith => ("startswith", "str.startswith")
  | .endswith => ("endswith", "str.endswith")
  | .find => ("find", "str.find")
theorem mt_str {m : Mt} {x : D} {ds : List D} {z : D} (h : mtD m x ds = some z) : ∃ s, x = .str s := by
  unfold mtD at h
  split at h
  · unfold joinD at h
    split at h <;> first | exact ⟨_, rfl⟩ | cases h
  all_goals (first | unfold mtS0 at h | unfold mtS1 at h | unfold findD at h)
  all_goals (split at h <;> first | exact ⟨_, rfl⟩ | cases h)
abbrev okT (t : List Nat) : Bool := t.all (fun c => decide (c < 1114112))
section
variable {X : Cx}
theorem ms0 {id : String} {r : V → List V → Hp → VK → Prop} {f : List Nat → Option D} (hr : MtR X id r)
    (h : ∀ (q : Addr) (A : Addr → Prop) (σ : L2.St) (ρ : Env) (H : Hp) (s : S) (t : List Nat) (z : D) (Q : VK), okT t = true → f t = some z → St0 X.K q A σ ρ H s → (∀ u H', Keep q H H' → Dc q H' s → Rep X.K q A H' u z → Q u H') → r (.str (strOf t)) [] H Q) : MtS X id (mtS0 f) :=
  ⟨r, hr, fun q A σ ρ H s x ds z v vs Q st e rx rs k => by
    match x, ds, e with
    | .str t, [], e =>
      rw [rep_str] at rx
      obtain ⟨rfl, ok⟩ := rx
      cases reps0 rs
      exact h q A σ ρ H s t z Q ok e st k⟩
theorem ms1 {id : String} {r : V → List V → Hp → VK → Prop} {f : List Nat → List Nat → Option D} (hr : MtR X id r)
    (h : ∀ (q : Addr) (A : Addr → Prop) (σ : L2.St) (ρ : Env) (H : Hp) (s : S) (t p : List Nat) (z : D) (Q : VK), okT t = true → okT p = true → f t p = some z → St0 X.K q A σ ρ H s → (∀ u H', Keep q H H' → Dc q H' s → Rep X.K q A H' u z → Q u H') → r (.str (strOf t)) [.str (strOf p)] H Q) : MtS X id (mtS1 f) :=
  ⟨r, hr, fun q A σ ρ H s x ds z v vs Q st e rx rs k => by
    match x, ds, e with
    | .str t, [.str p], e =>
      rw [rep_str] at rx
      obtain ⟨rfl, ok⟩ := rx
      obtain ⟨w, rfl, r1⟩ := reps1 rs
      rw [rep_str] at r1
      obtain ⟨rfl, ok2⟩ := r1
      exact h q A σ ρ H s t p z Q ok ok2 e st k⟩
end
theorem strOf_eq {x : Str} {t : List Nat} (h : x.cps.toList = t) : x = strOf t := by rw [← h, strOf_of]
theorem okT_sub {s t : List Nat} (h : okT s = true) (hs : ∀ c ∈ t, c ∈ s) : okT t = true := by
  rw [List.all_eq_true] at h ⊢
  exact fun c hc => h c (hs c hc)
theorem low_ascii : ∀ c, c < 128 → Unicode.lowerOf c = [lowC c] := by decide +kernel
theorem up_ascii : ∀ c, c < 128 → Unicode.upperOf c = [upC c] := by decide +kernel
theorem flat_one {g : Nat → Nat → List Nat} {f : Nat → Nat} : ∀ (s : List Nat) (g : Nat → Nat → List Nat), (∀ i c, s[i]? = some c → g i c = [f c]) → (List.map Array.toList (List.mapIdx (fun i a => (g i a).toArray) s)).flatten = s.map f
  | [], g, _ => rfl
  | c :: s, g, h => by
    rw [List.mapIdx_cons, List.map_cons, List.flatten_cons, h 0 c rfl, flat_one (g := g) (f := f) s (fun i => g (i + 1)) (fun i d e => h (i + 1) d (by simpa using e))]
    rfl
theorem placed_list {s : List Nat} {g : Nat → Nat → List Nat} {f : Nat → Nat} (h : ∀ i c, s[i]? = some c → g i c = [f c]) : (PySem.placed (strOf s) g).toList = s.map f := by
  unfold PySem.placed strOf
  rw [Array.toList_flatten, Array.toList_mapIdx]
  exact flat_one (g := g) s g h
theorem ascii_at {s : List Nat} (h : ascii s = true) {i c : Nat} (e : s[i]? = some c) : c < 128 := by
  have := List.all_eq_true.mp h c (List.mem_of_getElem? e)
  simpa using this
theorem lower_eq {s : List Nat} (h : ascii s = true) : Txt.lower (strOf s) = strOf (s.map lowC) := by
  refine strOf_eq (placed_list fun i c e => ?_)
  have hc := ascii_at h e
  unfold Unicode.lowerAt
  have e2 : (strOf s).cps[i]? = some c := by simpa [strOf] using e
  rw [e2]
  show (if (c == 0x3A3 && _) = true then _ else _) = _
  have h3 : (c == 0x3A3) = false := by simp; omega
  rw [h3]
  exact low_ascii c hc
theorem upper_eq {s : List Nat} (h : ascii s = true) : Txt.upper (strOf s) = strOf (s.map upC) := by
  refine strOf_eq (placed_list fun i c e => ?_)
  exact up_ascii c (ascii_at h e)
theorem ascii_ok {s : List Nat} {f : Nat → Nat} (h : ascii s = true) (hf : ∀ c, c < 128 → f c < 128) : okT (s.map f) = true := by
  rw [List.all_eq_true]
  intro c hc
  obtain ⟨d, hd, rfl⟩ := List.mem_map.mp hc
  have := List.all_eq_true.mp h d hd
  have := hf d (by simpa using this)
  simp
  omega
theorem strip_gen {goes : Nat → Bool} {l r : Bool} {s : List Nat} : Txt.stripBy goes l r (strOf s) = strOf ((if r then fun z => (z.reverse.dropWhile goes).reverse else id) ((if l then fun z => z.dropWhile goes else id) s)) := by
  have dw : ∀ z : List Nat, z.drop (z.takeWhile goes).length = z.dropWhile goes := fun z => by
    induction z with
    | nil => rfl
    | cons c z ih =>
      by_cases h : goes c = true
      · rw [List.takeWhile_cons_of_pos h, List.dropWhile_cons_of_pos h]
        simpa using ih
      · rw [List.takeWhile_cons_of_neg h, List.dropWhile_cons_of_neg h]
        rfl
  have key : (PySem.stripped goes l r (strOf s)).cps.toList = (if r then fun z => (z.reverse.dropWhile goes).reverse else id) ((if l then fun z => z.dropWhile goes else id) s) := by
    unfold PySem.stripped
    rw [StrLaws.strSub_toList, strOf_list]
    have e1 : s.drop (PySem.stripLo goes l (strOf s)) = (if l then fun z => z.dropWhile goes else id) s := by
      unfold PySem.stripLo
      rw [strOf_list]
      cases l with
      | false => rfl
      | true => exact dw s
    rw [e1]
    have hz : ((if l then fun z => z.dropWhile goes else id) s).length = s.length - PySem.stripLo goes l (strOf s) := by rw [← e1]; simp
    unfold PySem.stripHi
    rw [strOf_list, strOf_len, e1]
    generalize hzz : (if l then fun z => z.dropWhile goes else id) s = z at hz e1 ⊢
    cases r with
    | false =>
      show z.take (s.length - _) = z
      rw [List.take_of_length_le (by omega)]
    | true =>
      show z.take (s.length - (z.reverse.takeWhile goes).length - _) = (z.reverse.dropWhile goes).reverse
      rw [← dw z.reverse]
      rw [List.reverse_drop, List.reverse_reverse, List.length_reverse]
      congr 1
      omega
  unfold Txt.stripBy
  split
  · rename_i h
    refine strOf_eq ?_
    rw [← key]
    unfold PySem.stripSame at h
    rw [Bool.and_eq_true, beq_iff_eq, beq_iff_eq] at h
    unfold PySem.stripped
    rw [StrLaws.strSub_toList, h.2, h.1, strOf_list, strOf_len]
    simp
  · exact strOf_eq key
theorem cont_eq {p : List Nat} : (strOf p).cps.contains = fun c => p.contains c := by
  funext c
  simp [strOf]
theorem spl_ok {p : List Nat} : ∀ {t : List Nat} {k : Nat} {acc : List Nat}, okT t = true → okT acc = true → ∀ z ∈ TL.spl p k acc t, okT z = true
  | [], k, acc, _, ha => by
    rw [TL.spl_nil]
    intro z hz
    cases List.mem_singleton.mp hz
    exact ha
  | c :: t, 0, acc, ht, ha => by
    have ht' : decide (c < 1114112) = true ∧ okT t = true := by simpa [okT] using ht
    unfold TL.spl
    split
    · intro z hz
      rcases List.mem_cons.mp hz with rfl | hz
      · exact ha
      · exact spl_ok ht'.2 rfl z hz
    · exact spl_ok ht'.2 (by unfold okT at *; rw [List.all_append, ha]; simpa using ht'.1)
  | c :: t, k + 1, acc, ht, ha => by
    have ht' : decide (c < 1114112) = true ∧ okT t = true := by simpa [okT] using ht
    unfold TL.spl
    exact spl_ok ht'.2 ha
theorem strs_reps {K : PySem.W.Frag} {q : Addr} {A : Addr → Prop} {H : Hp} : ∀ {zs : List (List Nat)}, (∀ z ∈ zs, okT z = true) → Reps K q A H ((zs.map strOf).map V.str) (zs.map D.str)
  | [], _ => Reps.nil
  | z :: zs, h => Reps.cons (by rw [rep_str]; exact ⟨rfl, h z (List.mem_cons_self ..)⟩) (strs_reps fun y hy => h y (List.mem_cons_of_mem _ hy))
section
variable {X : Cx}
theorem ms_lower : MtS X "str.lower" (mtS0 lowerF) := ms0 mt_lower fun q A σ ρ H s t z Q ok e st k => by
  unfold lowerF at e
  split at e
  · rename_i h
    rw [Bool.and_eq_true, decide_eq_true_eq] at h
    cases e
    refine ⟨_, rfl, rfl, by rw [strOf_len]; exact Nat.le_trans h.1 (by decide), ?_⟩
    rw [lower_eq h.2]
    exact k _ _ Keep.refl st.dc (by rw [rep_str]; exact ⟨rfl, ascii_ok h.2 (by decide)⟩)
  · cases e
theorem ms_upper : MtS X "str.upper" (mtS0 upperF) := ms0 mt_upper fun q A σ ρ H s t z Q ok e st k => by
  unfold upperF at e
  split at e
  · rename_i h
    rw [Bool.and_eq_true, decide_eq_true_eq] at h
    cases e
    refine ⟨_, rfl, rfl, by rw [strOf_len]; exact Nat.le_trans h.1 (by decide), ?_⟩
    rw [upper_eq h.2]
    exact k _ _ Keep.refl st.dc (by rw [rep_str]; exact ⟨rfl, ascii_ok h.2 (by decide)⟩)
  · cases e
theorem mem_dropWhile {p : Nat → Bool} {s : List Nat} {c : Nat} (h : c ∈ s.dropWhile p) : c ∈ s := (List.dropWhile_sublist p).subset h
theorem ms_strip : MtS X "str.strip" (mtS1 stripF) := ms1 mt_stripChars fun q A σ ρ H s t p z Q ok ok2 e st k => by
  unfold stripF at e
  split at e
  · rename_i h
    cases e
    refine ⟨_, _, rfl, rfl, by rw [strOf_len]; exact Nat.le_trans h (by decide), ?_⟩
    have e2 : Txt.stripChars (strOf t) (strOf p) = strOf (rstripL p (lstripL p t)) := by
      unfold Txt.stripChars
      rw [strip_gen, cont_eq]
      rfl
    rw [e2]
    exact k _ _ Keep.refl st.dc (by rw [rep_str]; exact ⟨rfl, okT_sub ok fun c hc => mem_dropWhile (List.mem_reverse.mp (mem_dropWhile (List.mem_reverse.mp hc)))⟩)
  · cases e
theorem ms_lstrip : MtS X "str.lstrip" (mtS1 lstripF) := ms1 mt_lstripChars fun q A σ ρ H s t p z Q ok ok2 e st k => by
  unfold lstripF at e
  split at e
  · rename_i h
    cases e
    refine ⟨_, _, rfl, rfl, by rw [strOf_len]; exact Nat.le_trans h (by decide), ?_⟩
    have e2 : Txt.lstripChars (strOf t) (strOf p) = strOf (lstripL p t) := by
      unfold Txt.lstripChars
      rw [strip_gen, cont_eq]
      rfl
    rw [e2]
    exact k _ _ Keep.refl st.dc (by rw [rep_str]; exact ⟨rfl, okT_sub ok fun c hc => mem_dropWhile hc⟩)
  · cases e
theorem ms_rstrip : MtS X "str.rstrip" (mtS1 rstripF) := ms1 mt_rstripChars fun q A σ ρ H s t p z Q ok ok2 e st k => by
  unfold rstripF at e
  split at e
  · rename_i h
    cases e
    refine ⟨_, _, rfl, rfl, by rw [strOf_len]; exact Nat.le_trans h (by decide), ?_⟩
    have e2 : Txt.rstripChars (strOf t) (strOf p) = strOf (rstripL p t) := by
      unfold Txt.rstripChars
      rw [strip_gen, cont_eq]
      rfl
    rw [e2]
    exact k _ _ Keep.refl st.dc (by rw [rep_str]; exact ⟨rfl, okT_sub ok fun c hc => List.mem_reverse.mp (mem_dropWhile (List.mem_reverse.mp hc))⟩)
  · cases e
theorem ms_starts : MtS X "str.startswith" (mtS1 startsF) := ms1 mt_startswith fun q A σ ρ H s t p z Q ok ok2 e st k => by
  unfold startsF at e
  cases e
  refine ⟨_, _, rfl, rfl, ?_⟩
  have e2 : Txt.startswith (strOf t) (strOf p) = (t.take p.length == p) := by
    unfold Txt.startswith
    rw [StrLaws.subAt_eq, strOf_len, strOf_len, strOf_list, strOf_list, List.drop_zero]
    by_cases h : (t.take p.length == p) = true
    · rw [h, Bool.and_true]
      have := congrArg List.length (eq_of_beq h)
      simp at this
      simp
      omega
    · rw [Bool.not_eq_true] at h
      rw [h, Bool.and_false]
  rw [e2]
  exact k _ _ Keep.refl st.dc (by rw [rep_bl])
theorem ms_ends : MtS X "str.endswith" (mtS1 endsF) := ms1 mt_endswith fun q A σ ρ H s t p z Q ok ok2 e st k => by
  unfold endsF at e
  cases e
  refine ⟨_, _, rfl, rfl, ?_⟩
  have e2 : Txt.endswith (strOf t) (strOf p) = (decide (p.length ≤ t.length) && t.drop (t.length - p.length) == p) := by
    unfold Txt.endswith
    rw [StrLaws.subAt_eq, strOf_len, strOf_len, strOf_list, strOf_list, Nat.zero_add]
    by_cases h : p.length ≤ t.length
    · congr 2
      rw [List.take_of_length_le (by simp; omega)]
    · simp [h]
  rw [e2]
  exact k _ _ Keep.refl st.dc (by rw [rep_bl])
theorem occ1_hot (s sub : Str) (hi : Nat) : ∀ (l : List Nat) (st : Array Nat × Nat), st.fst.size = 1 → (forIn l st (StrLaws.occBody s sub hi 1)).run.fst = st.fst
  | [], st, h => rfl
  | a :: l, st, h => by
    rw [List.forIn_cons]
    unfold StrLaws.occBody
    rw [if_neg (fun z => by have := z.1.1.1; omega)]
    exact occ1_hot s sub hi l _ h
theorem occ1_find (s sub : Str) (hi : Nat) : ∀ (l : List Nat) (free : Nat), (∀ i ∈ l, free ≤ i) →
    (forIn l ((#[] : Array Nat), free) (StrLaws.occBody s sub hi 1)).run.fst.toList = (match l.find? (fun i => decide (i + sub.length ≤ hi) && Builtin.Str.subAt s sub i) with
      | some i => [i]
      | none => [])
  | [], free, _ => rfl
  | a :: l, free, hf => by
    rw [List.forIn_cons]
    unfold StrLaws.occBody
    have ha : free ≤ a := hf a (List.mem_cons_self ..)
    by_cases hc : a + sub.length ≤ hi ∧ Builtin.Str.subAt s sub a = true
    · rw [if_pos ⟨⟨⟨by simp, ha⟩, hc.1⟩, hc.2⟩, List.find?_cons_of_pos (by rw [decide_eq_true hc.1, hc.2]; rfl)]
      show (forIn l ((#[] : Array Nat).push a, a + sub.length) (StrLaws.occBody s sub hi 1)).run.fst.toList = [a]
      rw [occ1_hot s sub hi l _ (by simp)]
      rfl
    · rw [if_neg (fun z => hc ⟨z.1.2, z.2⟩), List.find?_cons_of_neg (by simpa using hc)]
      exact occ1_find s sub hi l free (fun i hi' => hf i (List.mem_cons_of_mem _ hi'))
theorem find3_L (s p : List Nat) (i : Int) (h : 0 ≤ i) : Txt.find3 (strOf s) (strOf p) i = findL s p i.toNat := by
  unfold Txt.find3
  have e : fromIndex (strOf s).length i = i.toNat := by
    unfold fromIndex
    rw [if_neg (by omega)]
    omega
  rw [e, StrLaws.occ_eq, occ1_find _ _ _ _ _ (fun j hj => (List.mem_range'_1.mp hj).1), strOf_len s]
  unfold findL
  have e2 : (fun i => decide (i + (strOf p).length ≤ s.length) && Builtin.Str.subAt (strOf s) (strOf p) i) = hitAt s p := by
    funext j
    unfold hitAt
    rw [StrLaws.subAt_eq, strOf_len, strOf_list, strOf_list]
  rw [e2]
  cases (List.range' i.toNat (s.length + 1 - i.toNat)).find? (hitAt s p) <;> rfl
theorem ms_find : MtS X "str.find" findD :=
  ⟨_, mt_find3, fun q A σ ρ H s x ds z v vs Q st e rx rs k => by
    match x, ds, e with
    | .str t, [.str p, .int i], e =>
      rw [rep_str] at rx
      obtain ⟨rfl, ok⟩ := rx
      obtain ⟨w, w2, rfl, r1, r2⟩ := reps2 rs
      rw [rep_str] at r1
      rw [rep_int] at r2
      obtain ⟨rfl, ok2⟩ := r1
      subst r2
      have e' : (if 0 ≤ i then some (D.int (findL t p i.toNat)) else none) = some z := e
      by_cases hi : 0 ≤ i
      · rw [if_pos hi] at e'
        cases e'
        refine ⟨_, _, i, rfl, rfl, ?_⟩
        rw [find3_L _ _ _ hi]
        exact k _ _ Keep.refl st.dc (by rw [rep_int])
      · rw [if_neg hi] at e'
        cases e'⟩
theorem ms_split : MtS X "str.split" (mtS1 splitF) := ms1 mt_split fun q A σ ρ H s t p z Q ok ok2 e st k => by
  unfold splitF at e
  split at e
  · rename_i h
    simp only [Bool.and_eq_true, decide_eq_true_eq, Bool.not_eq_true', List.isEmpty_eq_false_iff] at h
    cases e
    refine ⟨_, _, rfl, rfl, ?_, ?_, fun l hl => ?_⟩
    · rw [strOf_len]
      cases p with
      | nil => exact absurd rfl h.2
      | cons _ _ => simp
    · rw [strOf_len]
      exact Nat.le_trans (Nat.add_le_add_right h.1.1 2) (by decide)
    · have hk : ¬ Builtin.Str.strKind (strOf t) < Builtin.Str.strKind (strOf p) := by
        have : Builtin.Str.strKind (strOf p) = 1 := by
          unfold Builtin.Str.strKind
          rw [if_pos]
          have h2 := List.all_eq_true.mp h.1.2
          simp only [strOf, List.all_toArray]
          rw [List.all_eq_true]
          intro c hc
          have := h2 c hc
          simp at this ⊢
          omega
        rw [this]
        unfold Builtin.Str.strKind
        split
        · decide
        · split <;> decide
      have e1 := TL.split_spl (strOf t) (strOf p) (by show (strOf p).cps.toList ≠ []; rw [strOf_list]; exact h.2) hk
      have e2 : Txt.split (strOf t) (strOf p) = (TL.spl p 0 [] t).map strOf := by
        have e3 : (Txt.split (strOf t) (strOf p)).map TL.tl = TL.spl p 0 [] t := by
          rw [e1]
          show TL.spl (strOf p).cps.toList 0 [] (strOf t).cps.toList = _
          rw [strOf_list, strOf_list]
        rw [← e3, List.map_map]
        conv => lhs; rw [← List.map_id (Txt.split (strOf t) (strOf p))]
        apply List.map_congr_left
        intro z _
        exact (strOf_of z).symm
      rw [e2]
      refine new_lst st hl (strs_reps ?_) k
      exact spl_ok ok (by rfl)
  · cases e
end
theorem ms_mt {X : Cx} (m : Mt) : MtS X m.name.2 (mtD m) := by
  cases m
  · exact ms_join
  · exact ms_lower
  · exact ms_upper
  · exact ms_strip
  · exact ms_lstrip
  · exact ms_rstrip
  · exact ms_split
  · exact ms_starts
  · exact ms_ends
  · exact ms_find
theorem slot_mt (m : Mt) : Slot "str" m.name.1 m.name.2 := by
  cases m
  · exact PySem.F.slot_str_join
  · exact PySem.F.slot_str_lower
  · exact PySem.F.slot_str_upper
  · exact PySem.F.slot_str_strip
  · exact PySem.F.slot_str_lstrip
  · exact PySem.F.slot_str_rstrip
  · exact PySem.F.slot_str_split
  · exact PySem.F.slot_str_startswith
  · exact PySem.F.slot_str_endswith
  · exact PySem.F.slot_str_find
theorem type_mt (m : Mt) : typeOf (.builtin m.name.2) = pure (.type "method_descriptor") := by
  cases m
  · exact PySem.F.type_str_join
  · exact PySem.F.type_str_lower
  · exact PySem.F.type_str_upper
  · exact PySem.F.type_str_strip
  · exact PySem.F.type_str_lstrip
  · exact PySem.F.type_str_rstrip
  · exact PySem.F.type_str_split
  · exact PySem.F.type_str_startswith
  · exact PySem.F.type_str_endswith
  · exact PySem.F.type_str_find
/-! ### subscripts -/
theorem atI_rep {K : PySem.W.Frag} {q : Addr} {A : Addr → Prop} {H : Hp} {ds : List D} {vs : List V} {i : Int} {d : D} (r : Reps K q A H vs ds) (h : L2.atI ds i = some d) : ∃ v, L2.atI vs i = some v ∧ Rep K q A H v d := by
  unfold L2.atI at h ⊢
  obtain ⟨j, e1, e2⟩ := Option.bind_eq_some_iff.mp h
  obtain ⟨v, h1, h2⟩ := r.get e2
  rw [r.length, e1]
  exact ⟨v, h1, h2⟩
def IxS (X : Cx) (f : D → D → Option D) : Prop :=
  ∃ r, IxR X r ∧ ∀ (q : Addr) (A : Addr → Prop) (σ : L2.St) (ρ : Env) (H : Hp) (s : S) (x y z : D) (v w : V) (Q : VK), St0 X.K q A σ ρ H s → f x y = some z → Rep X.K q A H v x → Rep X.K q A H w y →
    (∀ u H', Keep q H H' → Dc q H' s → Rep X.K q A H' u z → Q u H') → r v w H Q
theorem ixs {X : Cx} : IxS X ixD := by
  refine ⟨_, ix_seq, fun q A σ ρ H s x y z v w Q st e rx ry k => ?_⟩
  match x, y, e with
  | .lst xs, .int i, e =>
    simp only [ixD] at e
    rw [rep_lst] at rx
    rw [rep_int] at ry
    obtain ⟨p, vs, rfl, _, hp, r⟩ := rx
    obtain ⟨u, h1, h2⟩ := atI_rep r e
    exact .inl ⟨p, vs, i, u, rfl, ry, SqL.of hp, h1, k _ _ Keep.refl st.dc h2⟩
  | .tup xs, .int i, e =>
    simp only [ixD] at e
    rw [rep_tup] at rx
    rw [rep_int] at ry
    obtain ⟨p, vs, rfl, hp, r⟩ := rx
    obtain ⟨u, h1, h2⟩ := atI_rep r e
    exact .inr (.inl ⟨p, vs, i, u, rfl, ry, hp, h1, k _ _ Keep.refl st.dc h2⟩)
  | .str t, .int i, e =>
    simp only [ixD] at e
    split at e
    · rename_i hl
      obtain ⟨c, e1, e2⟩ := Option.map_eq_some_iff.mp e
      cases e2
      rw [rep_str] at rx
      rw [rep_int] at ry
      refine .inr (.inr ⟨strOf t, i, c, rx.1, ry, by rw [strOf_len]; exact Nat.le_trans hl lim_le, by rw [strOf_list]; exact e1, k _ _ Keep.refl st.dc ?_⟩)
      rw [rep_str]
      refine ⟨rfl, ?_⟩
      unfold L2.atI at e1
      obtain ⟨j, _, e3⟩ := Option.bind_eq_some_iff.mp e1
      rw [List.all_cons, List.all_eq_true.mp rx.2 c (List.mem_of_getElem? e3)]
      rfl
    · cases e
theorem SlR.or {X : Cx} {r1 r2 : V → Option Int → Option Int → Hp → VK → Prop} (h1 : SlR X r1) (h2 : SlR X r2) : SlR X (fun x a b H Q => r1 x a b H Q ∨ r2 x a b H Q) := by
  intro pins s σ H x v vl vu lo hi sl Q I rx hs p1 p2 h
  rcases h with h | h
  · exact h1 pins s σ H x v vl vu lo hi sl Q I rx hs p1 p2 h
  · exact h2 pins s σ H x v vl vu lo hi sl Q I rx hs p1 p2 h
def SlS (X : Cx) (f : D → Option Int → Option Int → Option D) : Prop :=
  ∃ r, SlR X r ∧ ∀ (q : Addr) (A : Addr → Prop) (σ : L2.St) (ρ : Env) (H : Hp) (s : S) (x : D) (a b : Option Int) (z : D) (v : V) (Q : VK), St0 X.K q A σ ρ H s → f x a b = some z → Rep X.K q A H v x →
    (∀ u H', Keep q H H' → Dc q H' s → Rep X.K q A H' u z → Q u H') → r v a b H Q
theorem sls {X : Cx} : SlS X slD := by
  refine ⟨_, SlR.or sl_list (SlR.or sl_tup sl_str), fun q A σ ρ H s x a b z v Q st e rx k => ?_⟩
  match x, e with
  | .lst xs, e =>
    simp only [slD] at e
    cases e
    rw [rep_lst] at rx
    obtain ⟨p, vs, rfl, _, hp, r⟩ := rx
    refine .inl ⟨p, vs, rfl, SqL.of hp, fun p' h' => new_lst st h' ?_ k⟩
    unfold cutV cutL
    rw [r.length]
    exact (r.drop _).take _
  | .tup xs, e =>
    simp only [slD] at e
    split at e
    · cases e
    · rename_i hn
      cases e
      rw [rep_tup] at rx
      obtain ⟨p, vs, rfl, hp, r⟩ := rx
      refine .inr (.inl ⟨p, vs, rfl, hp, by rw [r.length]; exact hn, fun p' h' => new_tup st h' ?_ k⟩)
      unfold cutV cutL
      rw [r.length]
      exact (r.drop _).take _
  | .str t, e =>
    simp only [slD] at e
    split at e
    · rename_i hl
      cases e
      rw [rep_str] at rx
      refine .inr (.inr ⟨strOf t, rx.1, by rw [strOf_len]; exact Nat.le_trans hl lim_le, k _ _ Keep.refl st.dc ?_⟩)
      rw [rep_str]
      refine ⟨by unfold cutS cutL; rw [strOf_list, strOf_len]; rfl, ?_⟩
      rw [List.all_eq_true]
      intro c hc
      exact List.all_eq_true.mp rx.2 c (List.mem_of_mem_drop (List.mem_of_mem_take hc))
    · cases e
end Ev

/-! Ev6: expressions, one by one. -/
section
open PySem L2
theorem L2.PE.imp {X : Cx} {e : Expr} {t t' : TE} (h : PE X e t) (i : ∀ σ H Q, t' σ H Q → t σ H Q) : PE X e t' := ⟨fun pins s σ H Q I w => h.run pins s σ H Q I (i σ H Q w)⟩
theorem L2.PT.imp {X : Cx} {e : Expr} {t t' : TT} (h : PT X e t) (i : ∀ σ H Q, t' σ H Q → t σ H Q) : PT X e t' := ⟨fun pins s σ H Q I w => h.run pins s σ H Q I (i σ H Q w)⟩
theorem L2.PW.imp {X : Cx} {e : Expr} {t t' : TT} (h : PW X e t) (i : ∀ σ H Q, t' σ H Q → t σ H Q) : PW X e t' := ⟨fun wh pins s σ H Q I w => h.run wh pins s σ H Q I (i σ H Q w)⟩
theorem L2.PA.imp {X : Cx} {e : List Expr} {t t' : TA} (h : PA X e t) (i : ∀ σ H Q, t' σ H Q → t σ H Q) : PA X e t' := ⟨fun p pins s σ H Q I w => h.run p pins s σ H Q I (i σ H Q w)⟩
theorem L2.PO.imp {X : Cx} {e : Option Expr} {t t' : TO} (h : PO X e t) (i : ∀ σ H Q, t' σ H Q → t σ H Q) : PO X e t' := ⟨fun pins s σ H Q I w => h.run pins s σ H Q I (i σ H Q w)⟩
theorem L2.PTs.imp {X : Cx} {e : List Expr} {t t' : TT} (h : PTs X e t) (i : ∀ σ H Q, t' σ H Q → t σ H Q) : PTs X e t' := ⟨fun pins s σ H Q I w => h.run pins s σ H Q I (i σ H Q w)⟩
theorem L2.PI.imp {X : Cx} {tg e : Expr} {t t' : TI} (h : PI X tg e t) (i : ∀ σ H Q, t' σ H Q → t σ H Q) : PI X tg e t' := ⟨fun pins s σ H Q I w => h.run pins s σ H Q I (i σ H Q w)⟩
theorem L2.PI.or {X : Cx} {tg e : Expr} {t t' : TI} (h : PI X tg e t) (h' : PI X tg e t') : PI X tg e (fun σ H Q => t σ H Q ∨ t' σ H Q) := ⟨fun pins s σ H Q I w => w.elim (h.run pins s σ H Q I) (h'.run pins s σ H Q I)⟩
end
namespace Ev
open PySem L2 PyProof.Rows

theorem bind_assoc {α β γ : Type} (m : M α) (f : α → M β) (g : β → M γ) : M.bind (M.bind m f) g = M.bind m fun a => M.bind (f a) g := by
  funext s
  simp only [M.bind]
  cases m s <;> rfl
theorem bind_ret {α β : Type} (a : α) (f : α → M β) : M.bind (M.ret a) f = f a := rfl
theorem bind_no {α β : Type} (f : α → M β) : M.bind M.no f = M.no := rfl
theorem bind_congr {α β : Type} (m : M α) {f g : α → M β} (h : ∀ a, f a = g a) : M.bind m f = M.bind m g := by
  rw [funext h]
theorem bind_ok {α β : Type} {m : M α} {f : α → M β} {s s' : S} {b : β} (h : M.bind m f s = .ok b s') : ∃ a s1, m s = .ok a s1 ∧ f a s1 = .ok b s' := by
  simp only [M.bind] at h
  cases e : m s with
  | ok a s1 => rw [e] at h; exact ⟨a, s1, rfl, h⟩
  | exc x s1 => rw [e] at h; cases h
  | no => rw [e] at h; cases h
theorem opt_ok {α : Type} {o : Option α} {s s' : S} {b : α} (h : M.opt o s = .ok b s') : o = some b ∧ s' = s := by
  cases o with
  | none => cases h
  | some a => cases h; exact ⟨rfl, rfl⟩
/-- the test of what m gives -/
def tst (m : Env → M D) : Env → M Bool := fun ρ => M.bind (m ρ) fun x => M.opt (truthD x)
def isBoolOp : Expr → Bool
  | .BoolOp _ _ _ => true
  | _ => false
structure Snd (xx : XX) (X : Cx) (e : Expr) (m : Env → M D) : Prop where
  pe : PE X e (rdE xx X.K m)
  pt : PT X e (rdT xx X.K (tst m))
  pw : isBoolOp e = true → PW X e (rdT xx X.K (tst m))

def plainTest (X : Cx) (e : Expr) : Prop := ∀ whole, isTrue e X.env whole = (do let v ← whole; standAt e.pos; holding [v] (truthy v))
section
variable {xx : XX} {X : Cx}
/-- an expression whose test is its value's truth -/
theorem snd_plain {e : Expr} {m : Env → M D} (h : PE X e (rdE xx X.K m)) (p : plainTest X e) (nb : isBoolOp e = false) : Snd xx X e m := by
  refine ⟨h, (pt_truth h p).imp fun σ H Q ⟨q, A, ρ, s, st, post⟩ => ?_, fun z => by rw [nb] at z; cases z⟩
  refine seqX st post fun d s1 v H1 st1 k1 r p1 => ?_
  obtain ⟨b, e1, k⟩ := optX p1
  exact ⟨b, tru_of e1 r, k _ Keep.refl st1.dc⟩

def constOk (d : D) (k : Const) : Bool := match d, k with
  | .non, .none => true
  | .bl a, .bool b => a == b
  | .int i, .int j => i == j
  | .str s, .str x => s == x.cps.toList && s.all (fun c => decide (c < 1114112))
  | _, _ => false
theorem snd_const {d : D} {k : Const} {j : Nat} {pos : Pos} (h : constOk d k = true) : Snd xx X (.Constant k j pos) (fun _ => M.ret d) := by
  have fin : ∀ v, (∀ q A H, Rep X.K q A H v d) → ∀ σ H Q, rdE xx X.K (fun _ => M.ret d) σ H Q → tC v σ H Q := fun v hv σ H Q ⟨q, A, ρ, s, st, post⟩ => post _ _ Keep.refl st.dc (hv _ _ _)
  refine snd_plain ?_ (fun _ => rfl) rfl
  cases d <;> cases k <;> first | cases h | skip
  · exact pe_non.imp (fin _ fun q A H => by rw [rep_non])
  · have : _ = _ := eq_of_beq h
    subst this
    exact pe_bl.imp (fin _ fun q A H => by rw [rep_bl])
  · have : _ = _ := eq_of_beq h
    subst this
    exact pe_int.imp (fin _ fun q A H => by rw [rep_int])
  · unfold constOk at h
    rw [Bool.and_eq_true] at h
    have e : _ = _ := eq_of_beq h.1
    refine pe_str.imp (fin _ fun q A H => ?_)
    rw [rep_str]
    refine ⟨?_, h.2⟩
    rw [e, strOf_of]
theorem snd_var {i : Nat} {x : Str} {pos : Pos} (hN : X.N[i]? = some x) (hv : Vis X.env.scope x) (hd : (x == ("__debug__" : Str)) = false) (hcd : (x == ("__classdict__" : Str)) = false) : Snd xx X (.Name x pos) (fun ρ => M.opt (getV ρ i)) := by
  refine snd_plain ((pe_var hN hv hd hcd).imp fun σ H Q ⟨q, A, ρ, s, st, post⟩ => ?_) (fun _ => rfl) rfl
  obtain ⟨d, e, k⟩ := optE post
  obtain ⟨v, h1, h2⟩ := st.sl i d e
  exact ⟨v, h1, k _ _ Keep.refl st.dc h2⟩
theorem snd_glob {x : Str} {pos : Pos} {d : D} {v : V} {u : Value} {o : Option D} (hg : Gl X x) (hm : X.mg x = some u) (r : RelV v u) (hd : (x == ("__debug__" : Str)) = false) (hv : ∀ q A H, Rep X.K q A H v d) (ho : o = some d) : Snd xx X (.Name x pos) (fun _ => M.opt o) := by
  subst ho
  exact snd_plain ((pe_glob hg hm r hd).imp fun σ H Q ⟨q, A, ρ, s, st, post⟩ => post _ _ Keep.refl st.dc (hv _ _ _)) (fun _ => rfl) rfl
theorem snd_ty {x : Str} {pos : Pos} {n : String} (hg : Gl X x) (hm : X.mg x = none) (hb : bootBuiltins x = some (.type n)) (hn : x ≠ "__name__") (hd : (x == ("__debug__" : Str)) = false) : Snd xx X (.Name x pos) (fun _ => M.ret (.ty n)) :=
  snd_plain ((pe_bltn (v := .ty n) hg hm hb rfl hn hd).imp fun σ H Q ⟨q, A, ρ, s, st, post⟩ => post _ _ Keep.refl st.dc (by rw [rep_ty])) (fun _ => rfl) rfl
/-! ### lists of expressions -/
theorem sna_nil : PA X [] (rdA xx X.K fun _ => M.ret []) := pa_nil.imp fun σ H Q ⟨q, A, ρ, s, st, post⟩ => post _ _ Keep.refl st.dc Reps.nil
def notStar : Expr → Bool
  | .Starred _ _ => false
  | _ => true
theorem star_cons {e : Expr} {es : List Expr} {env : PySem.Env} (h : notStar e = true) : starEach (e :: es) env = (false, eval e env) :: starEach es env := by
  cases e <;> first | rfl | cases h
theorem star_any {pos : Pos} {env : PySem.Env} : ∀ {es : List Expr}, es.all notStar = true → (backTo pos (starEach es env)).any (·.1) = false
  | [], _ => rfl
  | e :: es, h => by
    rw [List.all_cons, Bool.and_eq_true] at h
    rw [star_cons h.1]
    have := star_any (pos := pos) (env := env) h.2
    unfold backTo at this ⊢
    rw [List.map_cons, List.any_cons, this]
    rfl
theorem star_all {pos : Pos} {env : PySem.Env} : ∀ {es : List Expr}, es.all notStar = true → (backTo pos (starEach es env)).all (fun x => !x.1) = true
  | [], _ => rfl
  | e :: es, h => by
    rw [List.all_cons, Bool.and_eq_true] at h
    rw [star_cons h.1]
    have := star_all (pos := pos) (env := env) h.2
    unfold backTo at this ⊢
    rw [List.map_cons, List.all_cons, this]
    rfl
theorem sna_cons {e : Expr} {es : List Expr} {m : Env → M D} {ms : Env → M (List D)} (h : Snd xx X e m) (hs : PA X es (rdA xx X.K ms)) (n : notStar e = true) :
    PA X (e :: es) (rdA xx X.K fun ρ => M.bind (m ρ) fun x => M.bind (ms ρ) fun xs => M.ret (x :: xs)) := by
  refine (pa_cons h.pe hs (star_cons n)).imp fun σ H Q ⟨q, A, ρ, s, st, post⟩ => ?_
  refine seqL st post fun d s1 v H1 st1 k1 r p1 => seqAL st1 p1 fun ds s2 vs H2 st2 k2 rs p2 => ?_
  exact p2 _ _ Keep.refl st2.dc (Reps.cons (Rep.mono (k2.mono st1.aq st1.dc) d v r) rs)
theorem snd_tup {es : List Expr} {ms : Env → M (List D)} {x1 : Nat} {pos : Pos} (h : PA X es (rdA xx X.K ms)) : Snd xx X (.Tuple es x1 pos) (fun ρ => M.bind (ms ρ) fun ds => if ds.length ≤ lim then M.ret (.tup ds) else M.no) := by
  refine snd_plain ((pe_tup h).imp fun σ H Q ⟨q, A, ρ, s, st, post⟩ => ?_) (fun _ => rfl) rfl
  refine seqA st post fun ds s1 vs H1 st1 k1 r p1 => ?_
  split at p1
  · rename_i hl
    exact ⟨by rw [r.length]; exact Nat.le_trans hl lim_le, fun p hp => new_tup st1 hp r p1⟩
  · exact p1.elim
theorem snd_lst {es : List Expr} {ms : Env → M (List D)} {pos : Pos} (h : PA X es (rdA xx X.K ms)) : Snd xx X (.List es pos) (fun ρ => M.bind (ms ρ) fun ds => if ds.length ≤ lim then M.ret (.lst ds) else M.no) := by
  refine snd_plain ((pe_lst h).imp fun σ H Q ⟨q, A, ρ, s, st, post⟩ => ?_) (fun _ => rfl) rfl
  refine seqA st post fun ds s1 vs H1 st1 k1 r p1 => ?_
  split at p1
  · rename_i hl
    exact ⟨by rw [r.length]; exact Nat.le_trans hl lim_le, fun p hp => new_lst st1 hp r p1⟩
  · exact p1.elim
theorem snd_dnew {pos : Pos} : Snd xx X (.Dict [] [] pos) (fun _ => M.ret (.dct [] [])) := by
  refine snd_plain (pe_dnewK.imp fun σ H Q ⟨q, A, ρ, s, st, post⟩ => ?_) (fun _ => rfl) rfl
  intro p hp
  refine post _ _ (Keep.new hp) (st.dc.upd hp) ?_
  rw [rep_dct]
  exact ⟨p, [], rfl, st.fresh hp, upd_same, rfl, Reps.nil⟩
/-! ### operators -/
theorem snd_bin {o : Operator} {a b : Expr} {ma mb : Env → M D} {pos : Pos} (ha : Snd xx X a ma) (hb : Snd xx X b mb) : Snd xx X (.BinOp a o b pos) (fun ρ => M.bind (ma ρ) fun x => M.bind (mb ρ) fun y => M.opt (binD o x y)) := by
  obtain ⟨r, ho, hk⟩ := ops_bin (X := X) o
  refine snd_plain ((pe_op ho ha.pe hb.pe).imp fun σ H Q ⟨q, A, ρ, s, st, post⟩ => ?_) (fun _ => rfl) rfl
  refine seqE st post fun x s1 v H1 st1 k1 r1 p1 => seqE st1 p1 fun y s2 w H2 st2 k2 r2 p2 => ?_
  obtain ⟨z, e, k⟩ := optE p2
  exact hk q A σ ρ H2 s2 x y z v w Q st2 e (Rep.mono (k2.mono st1.aq st1.dc) x v r1) r2 k
def notSet : Expr → Bool
  | .Set _ _ _ => false
  | _ => true
theorem marks_no {o : CmpOp} {e : Expr} (h : notSet e = true) : behindInMarks o e = false := by
  cases e <;> first | rfl | cases h
theorem snd_cmp (hu : X.A.units + 64 < cLine) {o : CmpOp} {a b : Expr} {ma mb : Env → M D} {pos : Pos} (ha : Snd xx X a ma) (hb : Snd xx X b mb) (n : notSet b = true) :
    Snd xx X (.Compare a [o] [b] pos) (fun ρ => M.bind (ma ρ) fun x => M.bind (mb ρ) fun y => M.opt (ofBool (cmpD o x y))) := by
  obtain ⟨r, ho, hk⟩ := ops_cmp (X := X) hu o
  refine ⟨(pe_cmpR ho ha.pe hb.pe (marks_no n)).imp fun σ H Q ⟨q, A, ρ, s, st, post⟩ => ?_, (pt_cmpR ho ha.pe hb.pe (marks_no n)).imp fun σ H Q ⟨q, A, ρ, s, st, post⟩ => ?_, fun z => by cases z⟩
  · refine seqE st post fun x s1 v H1 st1 k1 r1 p1 => seqE st1 p1 fun y s2 w H2 st2 k2 r2 p2 => ?_
    obtain ⟨z, e, k⟩ := optE p2
    exact hk q A σ ρ H2 s2 x y z v w Q st2 e (Rep.mono (k2.mono st1.aq st1.dc) x v r1) r2 k
  · have e0 : tst (fun ρ => M.bind (ma ρ) fun x => M.bind (mb ρ) fun y => M.opt (ofBool (cmpD o x y))) ρ = M.bind (ma ρ) (fun x => M.bind (mb ρ) fun y => M.opt (cmpD o x y)) := by
      unfold tst
      rw [bind_assoc]
      refine bind_congr _ fun x => ?_
      rw [bind_assoc]
      refine bind_congr _ fun y => ?_
      cases cmpD o x y <;> rfl
    rw [e0] at post
    refine seqX st post fun x s1 v H1 st1 k1 r1 p1 => seqX st1 p1 fun y s2 w H2 st2 k2 r2 p2 => ?_
    obtain ⟨b', e, k⟩ := optX p2
    refine hk q A σ ρ H2 s2 x y (.bl b') v w _ st2 (by simp only [cmpO, e]; rfl) (Rep.mono (k2.mono st1.aq st1.dc) x v r1) r2 fun u H' k' d' ru => ?_
    rw [rep_bl] at ru
    exact ⟨b', ru, k _ k' d'⟩
theorem snd_chn (hu : X.A.units + 64 < cLine) {o p : CmpOp} {a b c : Expr} {ma mb mc : Env → M D} {pos : Pos} (ha : Snd xx X a ma) (hb : Snd xx X b mb) (hc : Snd xx X c mc) (n : notSet c = true) :
    Snd xx X (.Compare a [o, p] [b, c] pos) (fun ρ => M.bind (ma ρ) fun x => M.bind (mb ρ) fun y => M.bind (M.opt (cmpD o x y)) fun k =>
      if k then M.bind (mc ρ) fun z => M.opt (ofBool (cmpD p y z)) else M.ret (.bl false)) := by
  obtain ⟨r, ho, hk⟩ := ops_cmp (X := X) hu o
  obtain ⟨r', ho', hk'⟩ := ops_cmp (X := X) hu p
  have lm : lastMarks [o, p] [b, c] = false := marks_no n
  have main : ∀ σ H Q, rdE xx X.K (fun ρ => M.bind (ma ρ) fun x => M.bind (mb ρ) fun y => M.bind (M.opt (cmpD o x y)) fun k =>
      if k then M.bind (mc ρ) fun z => M.opt (ofBool (cmpD p y z)) else M.ret (.bl false)) σ H Q → tChain r r' (rdE xx X.K ma) (rdE xx X.K mb) (rdE xx X.K mc) σ H Q := fun σ H Q ⟨q, A, ρ, s, st, post⟩ => by
    refine seqE st post fun x s1 v H1 st1 k1 r1 p1 => seqE st1 p1 fun y s2 w H2 st2 k2 r2 p2 => ?_
    obtain ⟨b1, e, p3⟩ := optB p2
    refine hk q A σ ρ H2 s2 x y (.bl b1) v w _ st2 (by simp only [cmpO, e]; rfl) (Rep.mono (k2.mono st1.aq st1.dc) x v r1) r2 fun u H3 k3 d3 ru => ?_
    rw [rep_bl] at ru
    refine ⟨b1, ru, ?_⟩
    have st3 := st2.go k3 d3
    cases b1 with
    | true =>
      simp only [if_true] at p3 ⊢
      refine seqE st3 (p3.weak k3) fun z s4 u4 H4 st4 k4 r4 p4 => ?_
      obtain ⟨d5, e5, k5⟩ := optE p4
      exact hk' q A σ ρ H4 s4 y z d5 w u4 Q st4 e5 (Rep.mono ((k3.trans k4).mono st2.aq st2.dc) y w r2) r4 k5
    | false =>
      simp only [Bool.false_eq_true, if_false] at p3 ⊢
      exact p3 _ _ k3 d3 (by rw [rep_bl])
  refine ⟨(pe_chain ho ho' ha.pe hb.pe hc.pe lm).imp main, (pt_chain ho ho' ha.pe hb.pe hc.pe lm).imp fun σ H Q ⟨q, A, ρ, s, st, post⟩ => ?_, fun z => by cases z⟩
  refine main σ H _ ⟨q, A, ρ, s, st, ?_⟩
  have bl : ∀ s' d' s'', (M.bind (ma ρ) fun x => M.bind (mb ρ) fun y => M.bind (M.opt (cmpD o x y)) fun k =>
      if k then M.bind (mc ρ) fun z => M.opt (ofBool (cmpD p y z)) else M.ret (.bl false)) s' = .ok d' s'' → ∃ b, d' = .bl b := fun s' d' s'' e => by
    obtain ⟨x, s1, _, e⟩ := bind_ok e
    obtain ⟨y, s2, _, e⟩ := bind_ok e
    obtain ⟨k, s3, _, e⟩ := bind_ok e
    cases k with
    | true =>
      obtain ⟨z, s4, _, e⟩ := bind_ok (m := mc ρ) e
      obtain ⟨e, _⟩ := opt_ok e
      obtain ⟨b, _, rfl⟩ := ofBool_some e
      exact ⟨b, rfl⟩
    | false =>
      cases e
      exact ⟨_, rfl⟩
  unfold tst at post
  dsimp only at post ⊢
  generalize hm : (M.bind (ma ρ) fun x => M.bind (mb ρ) fun y => M.bind (M.opt (cmpD o x y)) fun k =>
      if k then M.bind (mc ρ) fun z => M.opt (ofBool (cmpD p y z)) else M.ret (.bl false)) = mm at post bl ⊢
  simp only [M.bind] at post
  cases e : mm s with
  | ok d s' =>
    rw [e] at post
    obtain ⟨b, rfl⟩ := bl s d s' e
    intro v H' k' d' rv
    rw [rep_bl] at rv
    exact ⟨b, rv, post _ k' d'⟩
  | exc _ _ => rw [e] at post; exact post
  | no => rw [e] at post; exact post.elim
/-! ### and, or, not, if -/
theorem snd_one {op : BoolOp} {a : Expr} {ma : Env → M D} {pos : Pos} (ha : Snd xx X a ma) : Snd xx X (.BoolOp op [a] pos) ma := by
  have w : PW X (.BoolOp op [a] pos) (rdT xx X.K (tst ma)) := by
    cases op
    · exact pw_and1 ha.pt
    · exact pw_or1 ha.pt
  exact ⟨pe_one ha.pe, w.pt, fun _ => w⟩
theorem snd_and {a b : Expr} {r : List Expr} {ma mb : Env → M D} {pos : Pos} (ha : Snd xx X a ma) (hb : Snd xx X (.BoolOp .And (b :: r) pos) mb) :
    Snd xx X (.BoolOp .And (a :: b :: r) pos) (fun ρ => M.bind (ma ρ) fun x => match x with
    | .bl true => mb ρ
    | .bl false => M.ret (.bl false)
    | _ => M.no) := by
  have w : PW X (.BoolOp .And (a :: b :: r) pos) (rdT xx X.K (tst fun ρ => M.bind (ma ρ) fun x => match x with
    | .bl true => mb ρ
    | .bl false => M.ret (.bl false)
    | _ => M.no)) := by
    refine (pw_and ha.pt (hb.pw rfl)).imp fun σ H Q ⟨q, A, ρ, s, st, post⟩ => ?_
    have e0 : tst (fun ρ => M.bind (ma ρ) fun x => match x with
      | .bl true => mb ρ
      | .bl false => M.ret (.bl false)
      | _ => M.no) ρ = M.bind (ma ρ) (fun x => match x with
      | .bl true => tst mb ρ
      | .bl false => M.ret false
      | _ => M.no) := by
      unfold tst
      rw [bind_assoc]
      refine bind_congr _ fun x => ?_
      cases x <;> try rfl
      rename_i b'
      cases b' <;> rfl
    rw [e0] at post
    refine ⟨q, A, ρ, s, st, ?_⟩
    simp only [tst, M.bind] at post ⊢
    cases e : ma ρ s with
    | ok x s1 =>
      rw [e] at post
      simp only at post ⊢
      cases x <;> first | exact post.elim | skip
      rename_i b'
      intro H1 k1 d1
      have st1 := st.go k1 d1
      cases b' with
      | true => exact ⟨q, A, ρ, s1, st1, PostX.weak post k1⟩
      | false =>
        show Q false H1
        exact post _ k1 d1
    | exc _ _ => rw [e] at post; exact post
    | no => rw [e] at post; exact post
  refine ⟨(pe_and ha.pe hb.pe).imp fun σ H Q ⟨q, A, ρ, s, st, post⟩ => ?_, w.pt, fun _ => w⟩
  refine seqE st post fun x s1 v H1 st1 k1 r1 p1 => ?_
  cases x <;> first | exact p1.elim | skip
  rename_i b'
  rw [rep_bl] at r1
  refine ⟨b', r1, ?_⟩
  cases b' with
  | true => exact ⟨q, A, ρ, s1, st1, p1⟩
  | false => exact p1 _ _ Keep.refl st1.dc (by rw [rep_bl])
theorem snd_or {a b : Expr} {r : List Expr} {ma mb : Env → M D} {pos : Pos} (ha : Snd xx X a ma) (hb : Snd xx X (.BoolOp .Or (b :: r) pos) mb) :
    Snd xx X (.BoolOp .Or (a :: b :: r) pos) (fun ρ => M.bind (ma ρ) fun x => match x with
    | .bl true => M.ret (.bl true)
    | .bl false => mb ρ
    | _ => M.no) := by
  have w : PW X (.BoolOp .Or (a :: b :: r) pos) (rdT xx X.K (tst fun ρ => M.bind (ma ρ) fun x => match x with
    | .bl true => M.ret (.bl true)
    | .bl false => mb ρ
    | _ => M.no)) := by
    refine (pw_or ha.pt (hb.pw rfl)).imp fun σ H Q ⟨q, A, ρ, s, st, post⟩ => ?_
    have e0 : tst (fun ρ => M.bind (ma ρ) fun x => match x with
      | .bl true => M.ret (.bl true)
      | .bl false => mb ρ
      | _ => M.no) ρ = M.bind (ma ρ) (fun x => match x with
      | .bl true => M.ret true
      | .bl false => tst mb ρ
      | _ => M.no) := by
      unfold tst
      rw [bind_assoc]
      refine bind_congr _ fun x => ?_
      cases x <;> try rfl
      rename_i b'
      cases b' <;> rfl
    rw [e0] at post
    refine ⟨q, A, ρ, s, st, ?_⟩
    simp only [tst, M.bind] at post ⊢
    cases e : ma ρ s with
    | ok x s1 =>
      rw [e] at post
      simp only at post ⊢
      cases x <;> first | exact post.elim | skip
      rename_i b'
      intro H1 k1 d1
      have st1 := st.go k1 d1
      cases b' with
      | false => exact ⟨q, A, ρ, s1, st1, PostX.weak post k1⟩
      | true =>
        show Q true H1
        exact post _ k1 d1
    | exc _ _ => rw [e] at post; exact post
    | no => rw [e] at post; exact post
  refine ⟨(pe_or ha.pe hb.pe).imp fun σ H Q ⟨q, A, ρ, s, st, post⟩ => ?_, w.pt, fun _ => w⟩
  refine seqE st post fun x s1 v H1 st1 k1 r1 p1 => ?_
  cases x <;> first | exact p1.elim | skip
  rename_i b'
  rw [rep_bl] at r1
  refine ⟨b', r1, ?_⟩
  cases b' with
  | false => exact ⟨q, A, ρ, s1, st1, p1⟩
  | true => exact p1 _ _ Keep.refl st1.dc (by rw [rep_bl])
theorem snd_not {a : Expr} {ma : Env → M D} {pos : Pos} (ha : Snd xx X a ma) : Snd xx X (.UnaryOp .Not a pos) (fun ρ => M.bind (ma ρ) fun x => M.bind (M.opt (truthD x)) fun k => M.ret (.bl (!k))) := by
  refine ⟨(pe_notT ha.pe).imp fun σ H Q ⟨q, A, ρ, s, st, post⟩ => ?_, (pt_not ha.pt).imp fun σ H Q ⟨q, A, ρ, s, st, post⟩ => ?_, fun z => by cases z⟩
  · refine seqE st post fun x s1 v H1 st1 k1 r1 p1 => ?_
    obtain ⟨b, e, p2⟩ := optB p1
    exact ⟨b, tru_of e r1, p2 _ _ Keep.refl st1.dc (by rw [rep_bl])⟩
  · refine ⟨q, A, ρ, s, st, ?_⟩
    have e0 : tst (fun ρ => M.bind (ma ρ) fun x => M.bind (M.opt (truthD x)) fun k => M.ret (.bl (!k))) ρ = M.bind (tst ma ρ) (fun k => M.ret (!k)) := by
      unfold tst
      rw [bind_assoc, bind_assoc]
      refine bind_congr _ fun x => ?_
      cases truthD x <;> rfl
    rw [e0] at post
    simp only [M.bind] at post
    cases e : tst ma ρ s with
    | ok b s1 =>
      rw [e] at post
      exact fun H1 k1 d1 => post _ k1 d1
    | exc _ _ => rw [e] at post; exact post
    | no => rw [e] at post; exact post
theorem snd_neg {a : Expr} {ma : Env → M D} {pos : Pos} (ha : Snd xx X a ma) : Snd xx X (.UnaryOp .USub a pos) (fun ρ => M.bind (ma ρ) fun x => match x with
    | .int i => M.ret (.int (-i))
    | _ => M.no) := by
  refine snd_plain ((pe_un un_neg ha.pe).imp fun σ H Q ⟨q, A, ρ, s, st, post⟩ => ?_) (fun _ => rfl) rfl
  refine seqE st post fun x s1 v H1 st1 k1 r1 p1 => ?_
  cases x <;> first | exact p1.elim | skip
  rw [rep_int] at r1
  exact ⟨_, r1, p1 _ _ Keep.refl st1.dc (by rw [rep_int])⟩
def tIfT (tc ta tb : TT) : TT := fun σ H Q => tc σ H fun c H1 => if c = true then ta σ H1 Q else tb σ H1 Q
theorem pt_ifExp {c a b : Expr} {tc ta tb : TT} {pos : Pos} (hc : PT X c tc) (ha : PT X a ta) (hb : PT X b tb) : PT X (.IfExp c a b pos) (tIfT tc ta tb) := by
  refine ⟨fun pins s σ H Q I h => ?_⟩
  refine isTrue_IfExp (thn (hc.run pins s σ H _ I h) fun k s1 ⟨H1, I1, q1⟩ => ?_)
  cases k with
  | true => exact ha.run pins s1 σ H1 Q I1 q1
  | false => exact hb.run pins s1 σ H1 Q I1 q1
theorem snd_ite {c a b : Expr} {mc ma mb : Env → M D} {pos : Pos} (hc : Snd xx X c mc) (ha : Snd xx X a ma) (hb : Snd xx X b mb) :
    Snd xx X (.IfExp c a b pos) (fun ρ => M.bind (mc ρ) fun x => M.bind (M.opt (truthD x)) fun k => if k then ma ρ else mb ρ) := by
  have e0 : ∀ ρ, M.bind (mc ρ) (fun x => M.bind (M.opt (truthD x)) fun k => if k then ma ρ else mb ρ) = M.bind (tst mc ρ) (fun k => if k then ma ρ else mb ρ) := fun ρ => by
    unfold tst
    rw [bind_assoc]
  refine ⟨(pe_ifExp hc.pt ha.pe hb.pe).imp fun σ H Q ⟨q, A, ρ, s, st, post⟩ => ?_, (pt_ifExp hc.pt ha.pt hb.pt).imp fun σ H Q ⟨q, A, ρ, s, st, post⟩ => ?_, fun z => by cases z⟩
  · dsimp only at post
    rw [e0 ρ] at post
    refine seqT st post fun b s1 H1 st1 k1 p1 => ?_
    cases b with
    | true => exact ⟨q, A, ρ, s1, st1, p1⟩
    | false => exact ⟨q, A, ρ, s1, st1, p1⟩
  · have e1 : tst (fun ρ => M.bind (mc ρ) fun x => M.bind (M.opt (truthD x)) fun k => if k then ma ρ else mb ρ) ρ = M.bind (tst mc ρ) (fun k => if k then tst ma ρ else tst mb ρ) := by
      show M.bind (M.bind (mc ρ) fun x => M.bind (M.opt (truthD x)) fun k => if k then ma ρ else mb ρ) (fun x => M.opt (truthD x)) = _
      rw [e0, bind_assoc]
      refine bind_congr _ fun k => ?_
      cases k <;> rfl
    rw [e1] at post
    refine seqTX st post fun b s1 H1 st1 k1 p1 => ?_
    cases b with
    | true => exact ⟨q, A, ρ, s1, st1, p1⟩
    | false => exact ⟨q, A, ρ, s1, st1, p1⟩
/-! ### calls -/
theorem snd_bi (hc : X.calm = true) {f : Bi} {e : Expr} {es : List Expr} {ms : Env → M (List D)} {p pos : Pos} (hg : Gl X f.name.1) (hm : X.mg f.name.1 = none) (ha : PA X (e :: es) (rdA xx X.K ms)) (hn : (e :: es).all notStar = true) :
    Snd xx X (.Call (.Name f.name.1 p) (e :: es) [] pos) (fun ρ => M.bind (ms ρ) fun ds => M.opt (biD f ds)) := by
  obtain ⟨r, ho, hk⟩ := cs_bi (X := X) hc f
  have hb := boot_bi f
  have hn' := hn
  rw [List.all_cons, Bool.and_eq_true] at hn'
  have main : ∀ σ H Q, rdE xx X.K (fun ρ => M.bind (ms ρ) fun ds => M.opt (biD f ds)) σ H Q → tCB r (rdA xx X.K ms) σ H Q := fun σ H Q ⟨q, A, ρ, s, st, post⟩ => by
    refine seqA st post fun ds s1 vs H1 st1 k1 r1 p1 => ?_
    obtain ⟨z, e, k⟩ := optE p1
    exact hk q A σ ρ H1 s1 ds z vs Q st1 e r1 k
  refine snd_plain ?_ (fun _ => rfl) rfl
  cases hT : f.name.2.2 with
  | true =>
    simp only [hT, if_true] at ho hb
    exact (pe_callTy ho hg hm hb ha (bi_name f).1 (bi_name f).2 (star_cons hn'.1) (star_any hn'.2)).imp main
  | false =>
    simp only [hT, Bool.false_eq_true, if_false] at ho hb
    exact (pe_callB ho hg hm hb ha (bi_name f).1 (bi_name f).2 (star_cons hn'.1) (star_any hn'.2)).imp main
/-- a def's promise, by what F tells of data -/
def spF (T : List (Addr × Option Str)) (K : PySem.W.Frag) (np : Nat) (F : List D → M D) : Sp := fun vs H Q E => ∃ q A ds s, vs.length = np ∧ St0 K q A [] [] H s ∧ Reps K q A H vs ds ∧ PostE ⟨T, E⟩ K q A H (F ds s) Q
abbrev Tk (xx : XX) (X : Cx) : Prop := Takes X (fun c d _ H => xx.w c d H)
theorem St0.bare {K : PySem.W.Frag} {q : Addr} {A : Addr → Prop} {σ : L2.St} {ρ : Env} {H : Hp} {s : S} (x : St0 K q A σ ρ H s) : St0 K q A [] [] H s :=
  ⟨x.aq, x.tr, x.dc, fun i d h => by simp [getV] at h, Nat.le_refl _⟩
theorem snd_call {n np : Nat} {f : Addr} {fd : FuncData} {ps : List Str} {x : Str} {F : List D → M D} {es : List Expr} {ms : Env → M (List D)} {p pos : Pos} (tk : Tk xx X) (G : FnOk X.prog X.w X.K X.mg X.base (L2.CX X.prog X.w) n f fd ps (spF xx.T X.K np F)) (hr : Room n X.A)
    (hg : Gl X x) (hm : X.mg x = some (.ref f)) (hk : PySem.W.keepIn X.K (.ref f) = true) (hb : Binds X.K fd ps []) (ha : PA X es (rdA xx X.K ms)) (hn : es.all notStar = true) (hd : (x == ("__debug__" : Str)) = false)
    (hl : ∀ ρ s ds s', ms ρ s = .ok ds s' → ds.length = np) (he : es ≠ []) :
    Snd xx X (.Call (.Name x p) es [] pos) (fun ρ => M.bind (ms ρ) fun ds => F ds) := by
  cases es with
  | nil => exact (he rfl).elim
  | cons e es =>
    have hn' := hn
    rw [List.all_cons, Bool.and_eq_true] at hn'
    refine snd_plain ((pe_callS (E := fun _ => xx.w) G hr hg hm hk hb (fun σ => passAt tk σ) ha hd (star_cons hn'.1) (star_any hn'.2)).imp fun σ H Q ⟨q, A, ρ, s, st, post⟩ => ?_) (fun _ => rfl) rfl
    refine ⟨q, A, ρ, s, st, ?_⟩
    simp only [M.bind] at post
    cases e1 : ms ρ s with
    | ok ds s1 =>
      rw [e1] at post
      intro vs H1 k1 d1 r1
      exact ⟨q, A, ds, s1, by rw [r1.length]; exact hl ρ s ds s1 e1, (st.go k1 d1).bare, r1, PostE.weak post k1⟩
    | exc _ _ => rw [e1] at post; exact post
    | no => rw [e1] at post; exact post
def notCall0 : Expr → Bool
  | .Call (.Name _ _) [] [] _ => false
  | _ => true
theorem attr_base {o : Expr} {name : Str} {env : PySem.Env} (h : notCall0 o = true) : attributeBase o name env (eval o env) = eval o env := by
  unfold attributeBase
  split
  · cases h
  · rfl
theorem tyS {q : Addr} {A : Addr → Prop} {H : Hp} {v : V} {t : List Nat} (rv : Rep X.K q A H v (.str t)) : tyV X.K "str" v H := by
  rw [rep_str] at rv
  rw [rv.1]
  rfl
theorem snd_mt0 {m : Mt} {o : Expr} {mo : Env → M D} {apos cpos : Pos} (ho : Snd xx X o mo) (h0 : notCall0 o = true) (hl : (apos.endLine == cpos.line) = true) :
    Snd xx X (.Call (.Attribute o m.name.1 apos) [] [] cpos) (fun ρ => M.bind (mo ρ) fun x => M.bind (M.calm (M.ret [])) fun ds => M.opt (mtD m x ds)) := by
  obtain ⟨r, hr, hk⟩ := ms_mt (X := X) m
  refine snd_plain ?_ (fun _ => rfl) rfl
  refine (pe_bm0 PySem.F.plainAttrs_str (slot_mt m) (type_mt m) hr ho.pe (attr_base h0) hl).imp fun σ H Q ⟨q, A, ρ, s, st, post⟩ => ?_
  refine seqE st post fun x s1 v H1 st1 k1 r1 p1 => ?_
  obtain ⟨z, e, k⟩ := optE (o := mtD m x []) p1
  obtain ⟨t, rfl⟩ := mt_str e
  exact ⟨tyS r1, hk q A σ ρ H1 s1 _ [] z v [] Q st1 e r1 Reps.nil k⟩
theorem snd_mt1 {m : Mt} {o e : Expr} {es : List Expr} {mo : Env → M D} {ms : Env → M (List D)} {apos cpos : Pos} (ho : Snd xx X o mo) (ha : PA X (e :: es) (rdA xx X.K ms)) (hn : (e :: es).all notStar = true) (h0 : notCall0 o = true)
    (hl : (apos.endLine == cpos.line) = true) (hz : (e :: es).length < 20) :
    Snd xx X (.Call (.Attribute o m.name.1 apos) (e :: es) [] cpos) (fun ρ => M.bind (mo ρ) fun x => M.bind (M.calm (ms ρ)) fun ds => M.opt (mtD m x ds)) := by
  obtain ⟨r, hr, hk⟩ := ms_mt (X := X) m
  refine snd_plain ?_ (fun _ => rfl) rfl
  have hn' := hn
  rw [List.all_cons, Bool.and_eq_true] at hn'
  refine (pe_bm PySem.F.plainAttrs_str (slot_mt m) (type_mt m) hr ho.pe ha (attr_base h0) ?_ hl (star_cons hn'.1) (star_any hn'.2)).imp fun σ H Q ⟨q, A, ρ, s, st, post⟩ => ?_
  · rw [star_all hn]
    rw [decide_eq_true (by simp at hz ⊢; omega)]
    rfl
  · refine seqE st post fun x s1 v H1 st1 k1 r1 p1 => ?_
    have p1' : PostE xx X.K q A H1 (M.bind (ms ρ) (fun ds => M.opt (mtD m x ds)) s1) Q ∧ ∃ t, x = .str t := by
      have p1 := p1
      simp only [M.bind, M.calm] at p1 ⊢
      cases e : ms ρ s1 with
      | ok ds s2 =>
        rw [e] at p1
        obtain ⟨z, e, _⟩ := optE p1
        exact ⟨p1, mt_str e⟩
      | exc _ _ => rw [e] at p1; exact p1.elim
      | no => rw [e] at p1; exact p1.elim
    obtain ⟨p1, t, rfl⟩ := p1'
    refine ⟨tyS r1, seqA st1 p1 fun ds s2 vs H2 st2 k2 r2 p2 => ?_⟩
    obtain ⟨z, e, k⟩ := optE p2
    exact hk q A σ ρ H2 s2 _ ds z v vs Q st2 e (Rep.mono (k2.mono st1.aq st1.dc) _ v r1) r2 k
/-! ### subscripts -/
def notSlice : Expr → Bool
  | .Slice _ _ _ _ => false
  | _ => true
theorem plain_ix {b : Expr} (h : notSlice b = true) : PlainIx b := by
  intro o i
  cases b <;> first | rfl | cases h
theorem snd_ix {a b : Expr} {ma mb : Env → M D} {pos : Pos} (ha : Snd xx X a ma) (hb : Snd xx X b mb) (h : notSlice b = true) : Snd xx X (.Subscript a b pos) (fun ρ => M.bind (ma ρ) fun x => M.bind (mb ρ) fun y => M.opt (ixD x y)) := by
  obtain ⟨r, ho, hk⟩ := ixs (X := X)
  refine snd_plain ((pe_ix ho ha.pe hb.pe (plain_ix h)).imp fun σ H Q ⟨q, A, ρ, s, st, post⟩ => ?_) (fun _ => rfl) rfl
  refine seqE st post fun x s1 v H1 st1 k1 r1 p1 => seqE st1 p1 fun y s2 w H2 st2 k2 r2 p2 => ?_
  obtain ⟨z, e, k⟩ := optE p2
  exact hk q A σ ρ H2 s2 x y z v w Q st2 e (Rep.mono (k2.mono st1.aq st1.dc) x v r1) r2 k
theorem sno_none : PO X none (rdO xx X.K fun _ => M.ret none) := po_none.imp fun σ H Q ⟨q, A, ρ, s, st, post⟩ => post _ Keep.refl st.dc
theorem sno_some {a : Expr} {ma : Env → M D} (ha : Snd xx X a ma) : PO X (some a) (rdO xx X.K fun ρ => M.bind (ma ρ) fun x => M.bind (M.opt (intOf x)) fun i => M.ret (some i)) := by
  refine (po_some ha.pe).imp fun σ H Q ⟨q, A, ρ, s, st, post⟩ => ?_
  refine seqX st post fun x s1 v H1 st1 k1 r1 p1 => ?_
  obtain ⟨i, e, p2⟩ := optBX p1
  cases x <;> first | cases e | skip
  rw [rep_int] at r1
  exact ⟨_, r1, p2 _ Keep.refl st1.dc⟩
theorem snd_sl {a : Expr} {lo hi : Option Expr} {ma : Env → M D} {ml mh : Env → M (Option Int)} {p2 pos : Pos} (ha : Snd xx X a ma) (hl : PO X lo (rdO xx X.K ml)) (hh : PO X hi (rdO xx X.K mh)) :
    Snd xx X (.Subscript a (.Slice lo hi none p2) pos) (fun ρ => M.bind (ma ρ) fun x => M.bind (ml ρ) fun l => M.bind (mh ρ) fun h => M.opt (slD x l h)) := by
  obtain ⟨r, ho, hk⟩ := sls (X := X)
  refine snd_plain ((pe_slice ho ha.pe hl hh).imp fun σ H Q ⟨q, A, ρ, s, st, post⟩ => ?_) (fun _ => rfl) rfl
  refine seqE st post fun x s1 v H1 st1 k1 r1 p1 => seqO st1 p1 fun l s2 H2 st2 k2 p2 => seqO st2 p2 fun h s3 H3 st3 k3 p3 => ?_
  obtain ⟨z, e, k⟩ := optE p3
  exact hk q A σ ρ H3 s3 x l h z v Q st3 e (Rep.mono ((k2.trans k3).mono st1.aq st1.dc) x v r1) k
end
end Ev

/-! Ev7: what is walked; targets; comprehensions. -/
namespace Ev
open PySem L2 PyProof.Rows

/-! ### more to be avoided, where it is new -/
section
variable {K : PySem.W.Frag} {q : Addr} {A A' : Addr → Prop} {H : Hp}
mutual
theorem Rep.grow (g : ∀ a, A' a → A a ∨ H a = none) : ∀ (d : D) (v : V), Rep K q A H v d → Rep K q A' H v d
  | .non, v, h => by unfold Rep at h ⊢; exact h
  | .bl b, v, h => by unfold Rep at h ⊢; exact h
  | .int i, v, h => by unfold Rep at h ⊢; exact h
  | .str s, v, h => by unfold Rep at h ⊢; exact h
  | .tup xs, v, h => by
    unfold Rep at h ⊢
    obtain ⟨p, vs, e, sq, r⟩ := h
    exact ⟨p, vs, e, sq, Reps.grow g xs vs r⟩
  | .lst xs, v, h => by
    unfold Rep at h ⊢
    obtain ⟨p, vs, e, n, sq, r⟩ := h
    exact ⟨p, vs, e, fun z => (g _ z).elim n (fun z => by rw [sq] at z; cases z), sq, Reps.grow g xs vs r⟩
  | .dct ks ds, v, h => by
    unfold Rep at h ⊢
    obtain ⟨p, ws, e, n, sq, l, r⟩ := h
    exact ⟨p, ws, e, fun z => (g _ z).elim n (fun z => by rw [sq] at z; cases z), sq, l, Reps.grow g ds ws r⟩
  | .ty n, v, h => by unfold Rep at h ⊢; exact h
  | .dice, v, h => by unfold Rep at h ⊢; exact h
  | .opq a, v, h => by unfold Rep at h ⊢; exact h
theorem Reps.grow (g : ∀ a, A' a → A a ∨ H a = none) : ∀ (ds : List D) (vs : List V), Reps K q A H vs ds → Reps K q A' H vs ds
  | [], [], h => Reps.nil
  | d :: ds, v :: vs, h => by
    unfold Reps at h
    exact Reps.cons (Rep.grow g d v h.1) (Reps.grow g ds vs h.2)
  | _ :: _, [], h => by unfold Reps at h; exact h.elim
  | [], _ :: _, h => by unfold Reps at h; exact h.elim
end
end

/-! ### what is walked -/
/-- J walks the data xs, whatever happens to what may change -/
def Yld (K : PySem.W.Frag) (q : Addr) (A : Addr → Prop) (J : L2.It) (xs : List D) (H0 : Hp) : Prop :=
  ∀ (A' : Addr → Prop) (H : Hp), (∀ a, A a → A' a) → (∀ a, A' a → A a ∨ H0 a = none) → Mono A' H0 H → (∃ o, H q = some o) →
    (∀ i d, xs[i]? = some d → J.go i H ∧ ∀ v H', J.yld i H v H' → Keep q H H' ∧ H' q = H q ∧ (∀ a o, H a = some o → H' a = some o) ∧ Rep K q A' H' v d) ∧ ∀ i, xs.length ≤ i → J.stop i H
def PostI (xx : XX) (K : PySem.W.Frag) (q : Addr) (A : Addr → Prop) (H : Hp) (o : Out (List D)) (R : L2.It → Hp → Prop) : Prop := match o with
  | .ok xs s' => ∀ J H', Keep q H H' → Dc q H' s' → Yld K q A J xs H' → R J H'
  | .exc x s' => PXc xx K q A H x s'
  | .no => False
def rdI (xx : XX) (K : PySem.W.Frag) (m : Env → M (List D)) : TI := fun σ H R => ∃ q A ρ s, St0 K q A σ ρ H s ∧ PostI xx K q A H (m ρ s) R
section
variable {xx : XX} {X : Cx} {K : PySem.W.Frag} {q : Addr} {A : Addr → Prop} {H : Hp}
theorem yld_lst {p : Addr} {vs : List V} {ds : List D} (np : ¬ A p) (hp : H p = some (.lst vs)) (r : Reps K q A H vs ds) : Yld K q A (Itl K p) ds H := by
  intro A' H1 g1 g2 m ho
  have np' : ¬ A' p := fun z => (g2 p z).elim np fun z => by rw [hp] at z; cases z
  have hp1 := m.keep _ _ np' hp
  have r' : Reps K q A' H1 vs ds := Reps.mono m ds vs (Reps.grow g2 ds vs r)
  refine ⟨fun i d e => ?_, fun i hi => ?_⟩
  · obtain ⟨v, hv, rv⟩ := r'.get e
    refine ⟨⟨vs, v, SqL.of hp1, hv⟩, fun w H' ⟨e1, e2⟩ => ?_⟩
    subst e1
    have := e2 vs (SqL.of hp1)
    rw [hv] at this
    cases this
    exact ⟨Keep.refl, rfl, fun _ _ h => h, rv⟩
  · exact ⟨vs, SqL.of hp1, by rw [r'.length]; exact hi⟩
theorem yld_tup {p : Addr} {vs : List V} {ds : List D} (hp : SqT K H p vs) (r : Reps K q A H vs ds) : Yld K q A (Itt K p) ds H := by
  intro A' H1 g1 g2 m ho
  have hp1 := m.sqT hp
  have r' : Reps K q A' H1 vs ds := Reps.mono m ds vs (Reps.grow g2 ds vs r)
  refine ⟨fun i d e => ?_, fun i hi => ?_⟩
  · obtain ⟨v, hv, rv⟩ := r'.get e
    refine ⟨⟨vs, v, hp1, hv⟩, fun w H' ⟨e1, e2⟩ => ?_⟩
    subst e1
    have := e2 vs hp1
    rw [hv] at this
    cases this
    exact ⟨Keep.refl, rfl, fun _ _ h => h, rv⟩
  · exact ⟨vs, hp1, by rw [r'.length]; exact hi⟩
theorem yld_str {t : List Nat} (ok : t.all (fun c => decide (c < 1114112)) = true) : Yld K q A (Its (strOf t)) (t.map fun c => .str [c]) H := by
  intro A' H1 g1 g2 m ho
  have sz : (strOf t).cps.size = t.length := by simp [strOf]
  refine ⟨fun i d e => ?_, fun i hi => ?_⟩
  · rw [List.getElem?_map] at e
    obtain ⟨c, hc, rfl⟩ := Option.map_eq_some_iff.mp e
    have hi : i < t.length := (List.getElem?_eq_some_iff.mp hc).1
    refine ⟨by show i < _; rw [sz]; exact hi, fun w H' ⟨e1, c', e2, e3⟩ => ?_⟩
    subst e1 e3
    have : c' = c := by
      simp only [strOf, List.getElem?_toArray] at e2
      rw [hc] at e2
      cases e2
      rfl
    subst this
    refine ⟨Keep.refl, rfl, fun _ _ h => h, ?_⟩
    rw [rep_str]
    refine ⟨rfl, ?_⟩
    rw [List.all_cons, List.all_eq_true.mp ok c' (List.mem_of_getElem? hc)]
    rfl
  · show _ ≤ i
    rw [sz]
    simpa using hi
theorem yld_rng {lo : Int} {n : Nat} : Yld K q A (Itr lo n) (rangeD lo n) H := by
  intro A' H1 g1 g2 m ho
  refine ⟨fun i d e => ?_, fun i hi => ?_⟩
  · unfold rangeD at e
    rw [List.getElem?_map] at e
    obtain ⟨c, hc, rfl⟩ := Option.map_eq_some_iff.mp e
    have hi : i < n := by
      have := (List.getElem?_eq_some_iff.mp hc).1
      simpa using this
    have : c = i := by
      rw [List.getElem?_range hi] at hc
      cases hc
      rfl
    subst this
    refine ⟨hi, fun w H' ⟨e1, e2⟩ => ?_⟩
    subst e1 e2
    exact ⟨Keep.refl, rfl, fun _ _ h => h, by rw [rep_int]⟩
  · show n ≤ i
    simpa [rangeD] using hi
theorem sni_seq {tg e : Expr} {m : Env → M D} (h : Snd xx X e m) : PI X tg e (rdI xx X.K fun ρ => M.bind (m ρ) fun x => M.opt (itemsD x)) := by
  refine (L2.PI.or (pi_list h.pe) (L2.PI.or (pi_tup h.pe) (pi_str h.pe))).imp fun σ H R ⟨q, A, ρ, s, st, post⟩ => ?_
  simp only [M.bind] at post
  cases e1 : m ρ s with
  | ok d s1 =>
    rw [e1] at post
    simp only at post
    have mk : ∀ Q : VK, (∀ v H1, Keep q H H1 → Dc q H1 s1 → Rep X.K q A H1 v d → Q v H1) → rdE xx X.K m σ H Q := fun Q hq => ⟨q, A, ρ, s, st, by rw [e1]; exact hq⟩
    cases d <;> first | exact post.elim | skip
    · refine .inr (.inr (mk _ fun v H1 k1 d1 r1 => ?_))
      rw [rep_str] at r1
      exact ⟨_, r1.1, post _ _ k1 d1 (yld_str r1.2)⟩
    · refine .inr (.inl (mk _ fun v H1 k1 d1 r1 => ?_))
      rw [rep_tup] at r1
      obtain ⟨p, vs, rfl, hp, r⟩ := r1
      exact ⟨p, rfl, ⟨vs, hp⟩, post _ _ k1 d1 (yld_tup hp r)⟩
    · refine .inl (mk _ fun v H1 k1 d1 r1 => ?_)
      rw [rep_lst] at r1
      obtain ⟨p, vs, rfl, np, hp, r⟩ := r1
      exact ⟨p, rfl, ⟨vs, SqL.of hp⟩, post _ _ k1 d1 (yld_lst np hp r)⟩
  | exc _ _ => rw [e1] at post; exact .inl ⟨q, A, ρ, s, st, by rw [e1]; exact post⟩
  | no => rw [e1] at post; exact post.elim
theorem sni_rng {tg a : Expr} {m : Env → M D} {p pos : Pos} (hg : Gl X "range") (hm : X.mg "range" = none) (h : Snd xx X a m) (n : notStar a = true) :
    PI X tg (.Call (.Name "range" p) [a] [] pos) (rdI xx X.K fun ρ => M.bind (m ρ) fun x => M.bind (M.opt (intOf x)) fun n => if decide (-1000000 < n) && decide (n < 1000000) then M.ret (rangeD 0 n.toNat) else M.no) := by
  refine (pi_range1 hg hm (sna_cons h sna_nil n) (star_cons n)).imp fun σ H R ⟨q, A, ρ, s, st, post⟩ => ?_
  refine ⟨q, A, ρ, s, st, ?_⟩
  simp only [M.bind] at post ⊢
  cases e1 : m ρ s with
  | ok d s1 =>
    rw [e1] at post
    intro vs H1 k1 d1 r1
    obtain ⟨v, rfl, r⟩ := reps1 r1
    simp only at post
    cases d <;> first | exact post.elim | skip
    rename_i j
    simp only [intOf, M.opt, M.ret] at post
    split at post
    · rename_i hj
      simp only [Bool.and_eq_true, decide_eq_true_eq] at hj
      rw [rep_int] at r
      subst r
      exact ⟨j, rfl, by omega, by omega, post _ _ k1 d1 yld_rng⟩
    · exact post.elim
  | exc _ _ => rw [e1] at post; exact post
  | no => rw [e1] at post; exact post
theorem sni_rng2 {tg a b : Expr} {m m2 : Env → M D} {p pos : Pos} (hg : Gl X "range") (hm : X.mg "range" = none) (h : Snd xx X a m) (h2 : Snd xx X b m2) (n : notStar a = true) (n2 : notStar b = true) :
    PI X tg (.Call (.Name "range" p) [a, b] [] pos) (rdI xx X.K fun ρ => M.bind (m ρ) fun x => M.bind (m2 ρ) fun y => M.bind (M.opt (intOf x)) fun i => M.bind (M.opt (intOf y)) fun j =>
      if decide (-1000000 < i) && decide (i < 1000000) && decide (-1000000 < j) && decide (j < 1000000) then M.ret (rangeD i (j - i).toNat) else M.no) := by
  refine (pi_range2 hg hm (sna_cons h (sna_cons h2 sna_nil n2) n) (by rw [star_cons n, star_cons n2]; rfl) (star_cons n2)).imp fun σ H R ⟨q, A, ρ, s, st, post⟩ => ?_
  refine ⟨q, A, ρ, s, st, ?_⟩
  simp only [M.bind] at post ⊢
  cases e1 : m ρ s with
  | ok d s1 =>
    rw [e1] at post
    simp only at post ⊢
    cases e2 : m2 ρ s1 with
    | ok d2 s2 =>
      rw [e2] at post
      intro vs H1 k1 d1 r1
      obtain ⟨v, w, rfl, r, r2⟩ := reps2 r1
      simp only at post
      cases d <;> first | exact post.elim | skip
      rename_i i
      cases d2 <;> first | exact post.elim | skip
      rename_i j
      simp only [intOf, M.opt, M.ret] at post
      split at post
      · rename_i hj
        simp only [Bool.and_eq_true, decide_eq_true_eq] at hj
        rw [rep_int] at r r2
        subst r r2
        exact ⟨i, j, rfl, ⟨by omega, by omega, by omega, by omega⟩, post _ _ k1 d1 yld_rng⟩
      · exact post.elim
    | exc _ _ => rw [e2] at post; exact post
    | no => rw [e2] at post; exact post
  | exc _ _ => rw [e1] at post; exact post
  | no => rw [e1] at post; exact post
end
/-! ### enumerate of a text -/
def Itn (x : Str) : L2.It := ⟨fun i _ => i < x.cps.size, fun i H v H' => ∃ T c, v = .ref T ∧ H T = none ∧ H' = upd H T (.tup [.int (i : Nat), .str ⟨#[c]⟩]) ∧ x.cps[i]? = some c, fun i _ => x.cps.size ≤ i⟩
theorem turn_enumS {P : Program} {w : World} {K : PySem.W.Frag} {elts : List Expr} {kk : Nat} {tpos : Pos} (x : Str) (t : Tok) (e it : Addr) :
    Turn P w K (.Tuple elts kk tpos) (Itn x) [e, it] e (fun i h => (i ≤ x.cps.size) ∧ (∃ old, IsEnum h e it ((i : Nat) : Int) old) ∧ h.IsStrIter it (strIterType x) x t i ∧ e ≠ it) where
  mem := by simp
  obj := fun i h st b hb => by
    obtain ⟨_, ⟨old, he⟩, ⟨o, ho, hc, hd⟩, _⟩ := st
    have e' : b = e ∨ b = it := by simpa using hb
    rcases e' with z | z
    · rw [z]; exact ⟨_, he, fun v q => nomatch q⟩
    · rw [z]; exact ⟨o, ho, fun v q => by rw [hd] at q; cases q⟩
  keep := fun i h h' st k => let ⟨hz, ⟨old, he⟩, ⟨o, ho, r⟩, hne⟩ := st; ⟨hz, ⟨old, k e (by simp) _ he⟩, ⟨o, k it (by simp) o ho, r⟩, hne⟩
  item := by
    intro X hP hw hK hc i pins s σ H E I hf st hg
    subst hP hw hK
    obtain ⟨hz, ⟨old, he⟩, hit, hne⟩ := st
    have hel : e < s.heap.objs.size := Heap.lt_size he
    have hil : it < s.heap.objs.size := by obtain ⟨_, q, _⟩ := hit; exact Heap.lt_size q
    have hlt : i < x.cps.size := hg
    have D : Draws X.prog X.w X.A.in1 it [it] x.cps.size (fun i v => ∃ c u, x.cps[i]? = some c ∧ v = .str ⟨#[c]⟩ u) (fun i h => h.IsStrIter it (strIterType x) x t i) := Draws.text (A := X.A.in1) (show X.A.in1.handled = none from I.ok.hd hc) it x t
    refine wpAny_pyNext_enum_itemD D he hit hlt hne (by simpa using hne) fun u h' tk hu ho hit' hT hsz hk => ?_
    obtain ⟨c, tu, hcx, rfl⟩ := hu
    refine ⟨_, rfl, wpAny_letOwnedTupleGo_enum (s := { s with heap := h', toks := tk + 1 }) ho fun h'' he' sb => ?_⟩
    have hT2 : h''.get? s.heap.objs.size = some { cls := .type "tuple", data := .seq #[.int i tk, .str ⟨#[c]⟩ tu] } := (sb.2 _ (Nat.ne_of_gt hel)).trans hT
    have new : ObjOk X.prog X.w (upd H s.heap.objs.size (.tup [.int (i : Nat), .str ⟨#[c]⟩])) h'' s.heap.objs.size (.tup [.int (i : Nat), .str ⟨#[c]⟩]) :=
      ⟨by show 2 ≤ sizeLine; decide, [.int i tk, .str ⟨#[c]⟩ tu], .cons ⟨_, rfl⟩ (.cons ⟨_, rfl⟩ .nil), ⟨_, hT2, rfl, _, rfl⟩⟩
    have I1 : Inv X pins σ (upd H s.heap.objs.size (.tup [.int (i : Nat), .str ⟨#[c]⟩])) { s with heap := h'', toks := tk + 1 } :=
      I.turnedNew (ch := [e, it]) (fun b ob hb q => (sb.2 b (fun z => hb (by simp [z]))).trans (hk b ob (fun z => hb (by simp [z])) (fun z => hb (by simp [z])) q)) hf (Nat.le_refl _) new
    refine ⟨.ref s.heap.objs.size, _, I1, rfl, ⟨_, c, rfl, I.hok.fresh (Nat.le_refl _), rfl, hcx⟩, ⟨hlt, ⟨.str ⟨#[c]⟩ tu, ?_⟩, ?_, hne⟩, fun b hb => ?_⟩
    · have e1 : ((i + 1 : Nat) : Int) = (i : Int) + 1 := by omega
      rw [e1]; exact he'
    · obtain ⟨o, ho', r⟩ := hit'
      exact ⟨o, (sb.2 it (Ne.symm hne)).trans ho', r⟩
    · have hb' : b < s.heap.objs.size := by
        have e' : b = e ∨ b = it := by simpa using hb
        rcases e' with z | z
        · rw [z]; exact hel
        · rw [z]; exact hil
      rw [upd_ne (Nat.ne_of_lt hb')]
      exact (hf b hb).1
  done := by
    intro X hP hw hK hc i pins s σ H E I hf st hg
    subst hP hw hK
    obtain ⟨hz, ⟨old, he⟩, hit, hne⟩ := st
    have hi : i = x.cps.size := Nat.le_antisymm hz hg
    subst hi
    obtain ⟨f0, f1, f2, f3, f4, f5⟩ := hf it (by simp)
    have D : Draws X.prog X.w X.A.in1 it [it] x.cps.size (fun i v => ∃ c u, x.cps[i]? = some c ∧ v = .str ⟨#[c]⟩ u) (fun i h => h.IsStrIter it (strIterType x) x t i) := Draws.text (A := X.A.in1) (show X.A.in1.handled = none from I.ok.hd hc) it x t
    exact wpAny_pyNext_enum_endD D he hit fun h' eb => ⟨rfl, I.turned (t' := s.toks) (fun b o hb q => eb b o hb q) f0 f1 f3 f4 f5⟩
  self := fun A i s Q E st h => let ⟨_, ⟨_, he⟩, _⟩ := st; wpAny_pyIter_enum he h
def iEnumS (ta : TA) : TI := fun σ H R => ta σ H fun vs H1 => ∃ x, vs = [.str x] ∧ R (Itn x) H1
theorem pi_enumS {X : Cx} {e : Expr} {ta : TA} {p pos tpos : Pos} {elts : List Expr} {kk : Nat} (hg : Gl X "enumerate") (hm : X.mg "enumerate" = none) (ha : PA X [e] ta) (hs : starEach [e] X.env = [(false, eval e X.env)]) :
    PI X (.Tuple elts kk tpos) (.Call (.Name "enumerate" p) [e] [] pos) (iEnumS ta) := by
  refine ⟨fun pins s σ H R I h => ?_⟩
  refine Call_ (ld_blt I hg hm boot_enumerate (PyProof.Rows.callWith_type1 (thn (ha.run pos pins s σ H _ I h) fun us s1 ⟨vs, H1, I1, r1, q1⟩ => ?_) hs rfl))
  obtain ⟨x, ex, q⟩ := q1
  subst ex
  obtain ⟨u, rfl, t, rfl⟩ := vals1 r1
  refine call_enumerate_str fun h' he hit hsz hk => wpAny_pyIter_enum he ?_
  have I2 : Inv X pins σ H1 { s1 with heap := h' } := I1.kept (t' := s1.toks) hk
  refine ⟨s1.heap.objs.size + 1, [s1.heap.objs.size + 1, s1.heap.objs.size], _, _, H1, rfl, I2, turn_enumS x t (s1.heap.objs.size + 1) s1.heap.objs.size, ⟨Nat.zero_le _, ⟨.none, he⟩, hit, Nat.succ_ne_self _⟩, fun b hb => ?_, q⟩
  have e' : b = s1.heap.objs.size + 1 ∨ b = s1.heap.objs.size := by simpa using hb
  have hle : s1.heap.objs.size ≤ b := by
    rcases e' with z | z
    · rw [z]; exact Nat.le_add_right _ _
    · rw [z]; exact Nat.le_refl _
  exact I1.fpOk hle (I1.hok.fresh hle)
theorem enumD_get {xs : List D} {i : Nat} {d : D} (h : (enumD xs)[i]? = some d) : ∃ x, xs[i]? = some x ∧ d = .tup [.int (i : Nat), x] := by
  unfold enumD at h
  rw [List.getElem?_zipWith] at h
  cases e1 : (List.range xs.length)[i]? with
  | none => rw [e1] at h; cases h
  | some k =>
    rw [e1] at h
    cases e2 : xs[i]? with
    | none => rw [e2] at h; cases h
    | some x =>
      rw [e2] at h
      have hi : i < xs.length := (List.getElem?_eq_some_iff.mp e2).1
      rw [List.getElem?_range hi] at e1
      cases e1
      cases h
      exact ⟨x, rfl, rfl⟩
theorem enumD_len (xs : List D) : (enumD xs).length = xs.length := by simp [enumD]
section
variable {xx : XX} {X : Cx} {K : PySem.W.Frag} {q : Addr} {A : Addr → Prop} {H : Hp}
theorem new_pair {A' : Addr → Prop} {H1 : Hp} {T : Addr} {i : Nat} {v : V} {d : D} (hq : ∃ o, H1 q = some o) (hT : H1 T = none) (r : Rep K q A' H1 v d) :
    Keep q H1 (upd H1 T (.tup [.int (i : Nat), v])) ∧ upd H1 T (.tup [.int (i : Nat), v]) q = H1 q ∧ (∀ a o, H1 a = some o → upd H1 T (.tup [.int (i : Nat), v]) a = some o) ∧ Rep K q A' (upd H1 T (.tup [.int (i : Nat), v])) (.ref T) (.tup [.int (i : Nat), d]) := by
  have ext : ∀ a o, H1 a = some o → upd H1 T (.tup [.int (i : Nat), v]) a = some o := fun a o e => by
    rw [upd_ne (ne_of_none e hT)]
    exact e
  have m : Mono A' H1 (upd H1 T (.tup [.int (i : Nat), v])) := ⟨fun a o _ e => ext a o e, fun a xs e => ext a _ e, fun a o u e => ext a _ e⟩
  obtain ⟨o, ho⟩ := hq
  refine ⟨fun a o _ e => ext a o e, by rw [ext q o ho, ho], ext, ?_⟩
  rw [rep_tup]
  exact ⟨T, _, rfl, SqT.of upd_same, Reps.cons (by rw [rep_int]) (Reps.cons (Rep.mono m d v r) Reps.nil)⟩
theorem yld_enumL {p : Addr} {vs : List V} {ds : List D} (np : ¬ A p) (hp : H p = some (.lst vs)) (r : Reps K q A H vs ds) : Yld K q A (Ite K p) (enumD ds) H := by
  intro A' H1 g1 g2 m ho
  have np' : ¬ A' p := fun z => (g2 p z).elim np fun z => by rw [hp] at z; cases z
  have hp1 := m.keep _ _ np' hp
  have r' : Reps K q A' H1 vs ds := Reps.mono m ds vs (Reps.grow g2 ds vs r)
  refine ⟨fun i d e => ?_, fun i hi => ?_⟩
  · obtain ⟨x, e1, rfl⟩ := enumD_get e
    obtain ⟨v, hv, rv⟩ := r'.get e1
    refine ⟨⟨vs, v, SqL.of hp1, hv⟩, fun w H' ⟨T, y, e2, e3, e4, e5⟩ => ?_⟩
    subst e2 e4
    have := e5 vs (SqL.of hp1)
    rw [hv] at this
    cases this
    exact new_pair ho e3 rv
  · exact ⟨vs, SqL.of hp1, by rw [r'.length]; rw [enumD_len] at hi; exact hi⟩
theorem yld_enumS {t : List Nat} (ok : t.all (fun c => decide (c < 1114112)) = true) : Yld K q A (Itn (strOf t)) (enumD (t.map fun c => .str [c])) H := by
  intro A' H1 g1 g2 m ho
  have sz : (strOf t).cps.size = t.length := by simp [strOf]
  refine ⟨fun i d e => ?_, fun i hi => ?_⟩
  · obtain ⟨x, e1, rfl⟩ := enumD_get e
    rw [List.getElem?_map] at e1
    obtain ⟨c, hc, rfl⟩ := Option.map_eq_some_iff.mp e1
    have hi : i < t.length := (List.getElem?_eq_some_iff.mp hc).1
    refine ⟨by show i < _; rw [sz]; exact hi, fun w H' ⟨T, c', e2, e3, e4, e5⟩ => ?_⟩
    subst e2 e4
    have : c' = c := by
      simp only [strOf, List.getElem?_toArray] at e5
      rw [hc] at e5
      cases e5
      rfl
    subst this
    refine new_pair ho e3 ?_
    rw [rep_str]
    refine ⟨rfl, ?_⟩
    rw [List.all_cons, List.all_eq_true.mp ok c' (List.mem_of_getElem? hc)]
    rfl
  · show _ ≤ i
    rw [sz]
    rw [enumD_len] at hi
    simpa using hi
theorem sni_enum {a : Expr} {m : Env → M D} {p pos tpos : Pos} {elts : List Expr} {kk : Nat} (hg : Gl X "enumerate") (hm : X.mg "enumerate" = none) (h : Snd xx X a m) (n : notStar a = true) :
    PI X (.Tuple elts kk tpos) (.Call (.Name "enumerate" p) [a] [] pos) (rdI xx X.K fun ρ => M.bind (m ρ) fun x => M.bind (M.opt (enumOk x)) fun xs => M.ret (enumD xs)) := by
  have ha := sna_cons h sna_nil n
  refine (L2.PI.or (pi_enum hg hm ha (star_cons n)) (pi_enumS hg hm ha (star_cons n))).imp fun σ H R ⟨q, A, ρ, s, st, post⟩ => ?_
  simp only [M.bind] at post
  cases e1 : m ρ s with
  | ok d s1 =>
    rw [e1] at post
    simp only at post
    have mk : ∀ Q : List V → Hp → Prop, (∀ v H1, Keep q H H1 → Dc q H1 s1 → Rep X.K q A H1 v d → Q [v] H1) → rdA xx X.K (fun ρ => M.bind (m ρ) fun x => M.bind (M.ret []) fun xs => M.ret (x :: xs)) σ H Q := fun Q hq => ⟨q, A, ρ, s, st, by
      simp only [M.bind, e1]
      intro vs H1 k1 d1 r1
      obtain ⟨v, rfl, r⟩ := reps1 r1
      exact hq v H1 k1 d1 r⟩
    cases d <;> first | exact post.elim | skip
    · refine .inr (mk _ fun v H1 k1 d1 r1 => ?_)
      rw [rep_str] at r1
      rw [r1.1]
      exact ⟨_, rfl, post _ _ k1 d1 (yld_enumS r1.2)⟩
    · refine .inl (mk _ fun v H1 k1 d1 r1 => ?_)
      rw [rep_lst] at r1
      obtain ⟨p, vs, rfl, np, hp, r⟩ := r1
      exact ⟨p, vs, rfl, SqL.of hp, post _ _ k1 d1 (yld_enumL np hp r)⟩
  | exc _ _ => rw [e1] at post; exact .inl ⟨q, A, ρ, s, st, by simp only [M.bind, e1]; exact post⟩
  | no => rw [e1] at post; exact post.elim
end
end Ev

/-! Ev8: targets, comprehensions. -/
namespace Ev
open PySem L2 PyProof.Rows

/-! ### slots -/
structure Sl (K : PySem.W.Frag) (q : Addr) (A : Addr → Prop) (H : Hp) (σ : L2.St) (ρ : Env) : Prop where
  sl : ∀ i d, getV ρ i = some d → ∃ v, σ[i]? = some (some v) ∧ Rep K q A H v d
  ln : ρ.length ≤ σ.length
section
variable {K : PySem.W.Frag} {q : Addr} {A A' : Addr → Prop} {H H' : Hp} {σ : L2.St} {ρ : Env}
theorem Sl.mono (x : Sl K q A H σ ρ) (m : Mono A H H') : Sl K q A H' σ ρ := ⟨fun i d e => let ⟨v, h1, h2⟩ := x.sl i d e; ⟨v, h1, Rep.mono m d v h2⟩, x.ln⟩
theorem Sl.grow (x : Sl K q A H σ ρ) (g : ∀ a, A' a → A a ∨ H a = none) : Sl K q A' H σ ρ := ⟨fun i d e => let ⟨v, h1, h2⟩ := x.sl i d e; ⟨v, h1, Rep.grow g d v h2⟩, x.ln⟩
theorem Sl.anti (x : Sl K q A H σ ρ) (g : ∀ a, A' a → A a) : Sl K q A' H σ ρ := ⟨fun i d e => let ⟨v, h1, h2⟩ := x.sl i d e; ⟨v, h1, Rep.anti g d v h2⟩, x.ln⟩
theorem getV_set {ρ : Env} {i j : Nat} {o : Option D} {d : D} (h : getV (ρ.set i o) j = some d) : (i = j ∧ i < ρ.length ∧ o = some d) ∨ (i ≠ j ∧ getV ρ j = some d) := by
  unfold getV at h
  by_cases e : i = j
  · subst e
    by_cases hl : i < ρ.length
    · rw [List.getElem?_set_self hl] at h
      exact .inl ⟨rfl, hl, h⟩
    · rw [List.getElem?_eq_none (by simpa using hl)] at h
      cases h
  · rw [List.getElem?_set_ne e] at h
    exact .inr ⟨e, h⟩
theorem Sl.set (x : Sl K q A H σ ρ) {i : Nat} {v : V} {d : D} (r : Rep K q A H v d) : Sl K q A H (σ.set i (some v)) (ρ.set i (some d)) := by
  refine ⟨fun j dd e => ?_, by simpa using x.ln⟩
  rcases getV_set e with ⟨rfl, hl, e⟩ | ⟨hn, e⟩
  · cases e
    exact ⟨v, List.getElem?_set_self (Nat.lt_of_lt_of_le hl x.ln), r⟩
  · obtain ⟨w, h1, h2⟩ := x.sl j dd e
    exact ⟨w, by rw [List.getElem?_set_ne hn]; exact h1, h2⟩
theorem St0.slots {s : S} (x : St0 K q A σ ρ H s) : Sl K q A H σ ρ := ⟨x.sl, x.ln⟩
theorem St0.with {s : S} {σ' : L2.St} {ρ' : Env} (x : St0 K q A σ ρ H s) (y : Sl K q A H σ' ρ') : St0 K q A σ' ρ' H s := ⟨x.aq, x.tr, x.dc, y.sl, y.ln⟩
theorem wipe_in {σ : L2.St} {i : Nat} : ∀ {vs : List Nat}, i ∈ vs → (wipe σ vs)[i]? = (σ[i]?).map fun _ => none
  | v :: vs, h => by
    unfold wipe
    by_cases e : v = i
    · subst e
      by_cases hl : v < σ.length
      · rw [List.getElem?_set_self (by rw [wipe_length]; exact hl), List.getElem?_eq_getElem hl]
        rfl
      · rw [List.getElem?_eq_none (by simpa [wipe_length] using hl), List.getElem?_eq_none (by simpa using hl)]
        rfl
    · rw [List.getElem?_set_ne e]
      exact wipe_in ((List.mem_cons.mp h).resolve_left fun z => e z.symm)
theorem wipe_eq {σ τ : L2.St} {vs : List Nat} (hl : σ.length = τ.length) (h : ∀ i, i ∉ vs → σ[i]? = τ[i]?) : wipe σ vs = wipe τ vs := by
  apply List.ext_getElem?
  intro i
  by_cases hi : i ∈ vs
  · rw [wipe_in hi, wipe_in hi]
    by_cases hz : i < σ.length
    · rw [List.getElem?_eq_getElem hz, List.getElem?_eq_getElem (by rw [← hl]; exact hz)]
      rfl
    · rw [List.getElem?_eq_none (by simpa using hz), List.getElem?_eq_none (by rw [← hl]; simpa using hz)]
  · rw [wipe_out hi, wipe_out hi]
    exact h i hi
theorem getV_wipe {ρ : Env} {i : Nat} {d : D} : ∀ {vs : List Nat}, getV (wipeE ρ vs) i = some d → i ∉ vs ∧ getV ρ i = some d
  | [], h => ⟨by simp, h⟩
  | v :: vs, h => by
    unfold wipeE at h
    rcases getV_set h with ⟨_, _, e⟩ | ⟨hn, e⟩
    · cases e
    · obtain ⟨h1, h2⟩ := getV_wipe e
      exact ⟨by simp only [List.mem_cons, not_or]; exact ⟨fun z => hn z.symm, h1⟩, h2⟩
theorem wipeE_len (ρ : Env) : ∀ vs : List Nat, (wipeE ρ vs).length = ρ.length
  | [] => rfl
  | v :: vs => by unfold wipeE; rw [List.length_set, wipeE_len ρ vs]
theorem Sl.wiped (x : Sl K q A H σ ρ) (vs : List Nat) : Sl K q A H (wipe σ vs) (wipeE ρ vs) := by
  refine ⟨fun i d e => ?_, by rw [wipe_length, wipeE_len]; exact x.ln⟩
  obtain ⟨h1, h2⟩ := getV_wipe e
  obtain ⟨v, h3, h4⟩ := x.sl i d h2
  exact ⟨v, by rw [wipe_out h1]; exact h3, h4⟩
end
/-! ### targets -/
def gAll : List Nat → TGs
  | [] => gNil
  | i :: is => gCons (gName i) (gAll is)
def gT (K : PySem.W.Frag) : Tg → TG
  | .name i => gName i
  | .names is => gTup K is.length (gAll is)
def Tg.slots : Tg → List Nat
  | .name i => [i]
  | .names is => is
section
variable {K : PySem.W.Frag} {q : Addr} {A : Addr → Prop} {H : Hp}
theorem gAll_ok : ∀ {is : List Nat} {ds : List D} {vs : List V} {σ : L2.St} {ρ ρ' : Env} {Q : L2.St → Hp → Prop}, Sl K q A H σ ρ → Reps K q A H vs ds → setAll is ds ρ = some ρ' →
    (∀ σ', Sl K q A H σ' ρ' → σ'.length = σ.length → (∀ i, i ∉ is → σ'[i]? = σ[i]?) → Q σ' H) → gAll is vs σ H Q
  | [], [], vs, σ, ρ, ρ', Q, x, r, e, k => by
    cases e
    exact ⟨reps0 r, k σ x rfl fun _ _ => rfl⟩
  | i :: is, d :: ds, [], σ, ρ, ρ', Q, x, r, e, k => by unfold Reps at r; exact r.elim
  | i :: is, d :: ds, v :: vs, σ, ρ, ρ', Q, x, r, e, k => by
    unfold Reps at r
    refine ⟨v, vs, rfl, ?_⟩
    refine gAll_ok (is := is) (x.set r.1) r.2 e fun σ' x' hl ho => k σ' x' (by rw [hl, List.length_set]) fun j hj => ?_
    simp only [List.mem_cons, not_or] at hj
    rw [ho j hj.2, List.getElem?_set_ne (fun z => hj.1 z.symm)]
  | [], _ :: _, _, _, _, _, _, _, _, e, _ => by cases e
  | _ :: _, [], _, _, _, _, _, _, _, e, _ => by cases e
theorem setAll_len : ∀ {is : List Nat} {ds : List D} {ρ ρ' : Env}, setAll is ds ρ = some ρ' → ds.length = is.length
  | [], [], _, _, _ => rfl
  | _ :: is, _ :: ds, ρ, ρ', e => by
    have := setAll_len (is := is) (ds := ds) e
    simp [this]
  | [], _ :: _, _, _, e => by cases e
  | _ :: _, [], _, _, e => by cases e
theorem gT_ok {t : Tg} {d : D} {v : V} {σ : L2.St} {ρ ρ' : Env} {Q : L2.St → Hp → Prop} (x : Sl K q A H σ ρ) (r : Rep K q A H v d) (e : bindT t d ρ = some ρ')
    (k : ∀ σ', Sl K q A H σ' ρ' → σ'.length = σ.length → (∀ i, i ∉ t.slots → σ'[i]? = σ[i]?) → Q σ' H) : gT K t v σ H Q := by
  cases t with
  | name i =>
    cases e
    exact k _ (x.set r) (by simp) fun j hj => by
      simp only [Tg.slots, List.mem_singleton] at hj
      rw [List.getElem?_set_ne (fun z => hj z.symm)]
  | names is =>
    cases d <;> first | cases e | skip
    rename_i ds
    simp only [bindT] at e
    rw [rep_tup] at r
    obtain ⟨p, vs, rfl, hp, r⟩ := r
    exact ⟨p, vs, rfl, hp, by rw [r.length, setAll_len e], gAll_ok x r e k⟩
end
section
variable {xx : XX} {X : Cx}
theorem assign_len {es : List Expr} {env : PySem.Env} : (assignEach es env).length = es.length := by
  induction es with
  | nil => rfl
  | cons e es ih => cases e <;> simp [assignEach, ih]
/-- a list of names as targets -/
def namesOk (N : List Str) (st : Str → Bool) : List Nat → List Expr → Bool
  | [], [] => true
  | i :: is, .Name x _ :: es => decide (N[i]? = some x) && st x && namesOk N st is es
  | _, _ => false
def tgOk (N : List Str) (st : Str → Bool) : Tg → Expr → Bool
  | .name i, .Name x _ => decide (N[i]? = some x) && st x
  | .names is, .Tuple es _ _ => namesOk N st is es
  | _, _ => false
/-- what st tells of a name lets it be stored -/
def Stores (X : Cx) (st : Str → Bool) : Prop := ∀ x, st x = true → Loc X.env.scope x ∧ (X.fn x = true ∨ X.env.scope.names.lookup x = some .local)
theorem pgs_names (hN : X.N.Nodup) {st : Str → Bool} (hs : Stores X st) : ∀ {is : List Nat} {es : List Expr}, namesOk X.N st is es = true → PGs X es (gAll is) ∧ (assignEach es X.env).findIdx? (·.1) = none
  | [], [], _ => ⟨pgs_nil, rfl⟩
  | i :: is, .Name x p :: es, h => by
    simp only [namesOk, Bool.and_eq_true, decide_eq_true_eq] at h
    obtain ⟨h1, h2⟩ := pgs_names hN hs h.2
    obtain ⟨l, f⟩ := hs x h.1.2
    refine ⟨pgs_cons (pg_name hN h.1.1 l f) h1, ?_⟩
    show List.findIdx? _ ((false, assign (.Name x p) X.env) :: assignEach es X.env) = none
    rw [List.findIdx?_cons, h2]
    rfl
  | [], _ :: _, h => by cases h
  | _ :: _, [], h => by cases h
  | _ :: _, .BoolOp .. :: _, h => by cases h
theorem pg_tg (hc : X.calm = true) (hN : X.N.Nodup) {st : Str → Bool} (hs : Stores X st) {t : Tg} {e : Expr} (h : tgOk X.N st t e = true) : PG X e (gT X.K t) := by
  unfold tgOk at h
  split at h
  · simp only [Bool.and_eq_true, decide_eq_true_eq] at h
    obtain ⟨l, f⟩ := hs _ h.2
    exact pg_name hN h.1 l f
  · rename_i is es _ _
    obtain ⟨h1, h2⟩ := pgs_names hN hs h
    have hl : ∀ {is : List Nat} {es : List Expr}, namesOk X.N st is es = true → es.length = is.length := by
      intro is
      induction is with
      | nil =>
        intro es h
        cases es with
        | nil => rfl
        | cons e es => cases h
      | cons i is ih =>
        intro es h
        cases es with
        | nil => cases h
        | cons e es =>
          cases e <;> first | cases h | skip
          simp only [namesOk, Bool.and_eq_true] at h
          simp [ih h.2]
    exact pg_tup hc h1 (by rw [assign_len, hl h]) h2
  · cases h
end
/-! ### comprehensions -/
section
variable {xx yy : XX} {X : Cx}
theorem comp_rd {mi : Env → M (List D)} {t : Tg} {mt : Env → M Bool} {me : Env → M D} {own : List Nat} (ho : ∀ i ∈ t.slots, i ∈ own) {σ : L2.St} {H : Hp} {Q : VK}
    (h : rdE xx X.K (fun ρ => M.bind (mi ρ) fun xs => M.bind (M.calm (compD (fun d => bindT t d (wipeE ρ own)) mt me xs [])) fun ds => M.ret (.lst ds)) σ H Q) :
    tLc (rdI xx X.K mi) (gT X.K t) (rdT yy X.K mt) (rdE yy X.K me) own σ H Q := by
  obtain ⟨q, A, ρ, s, st, post⟩ := h
  refine ⟨q, A, ρ, s, st, ?_⟩
  simp only [M.bind] at post
  cases e1 : mi ρ s with
  | exc _ _ => rw [e1] at post; exact post
  | no => rw [e1] at post; exact post
  | ok xs s1 =>
    rw [e1] at post
    simp only [M.calm] at post
    intro J H1 k1 d1 y Dl hD
    have st1 := st.go k1 d1
    generalize hb : (fun d => bindT t d (wipeE ρ own)) = b at post
    cases e2 : compD b mt me xs [] s1 with
    | exc _ _ => rw [e2] at post; exact post.elim
    | no => rw [e2] at post; exact post.elim
    | ok ds s2 =>
      rw [e2] at post
      simp only [M.ret] at post
      have nA : ¬ A Dl := st1.fresh hD
      let A' : Addr → Prop := fun a => A a ∨ a = Dl
      have g1 : ∀ a, A a → A' a := fun a h => .inl h
      have g2 : ∀ a, A' a → A a ∨ H1 a = none := fun a h => h.elim .inl fun z => .inr (z ▸ hD)
      refine ⟨fun i m H => m = xs.length - i ∧ i ≤ xs.length ∧ ∃ s3 acc accV, (∀ a o, a ≠ q → a ≠ Dl → H1 a = some o → H a = some o) ∧ Dc q H s3 ∧ H Dl = some (.lst accV) ∧ Reps X.K q A' H accV acc ∧ compD b mt me (xs.drop i) acc s3 = .ok ds s2, ⟨xs.length, rfl, Nat.zero_le _, s1, [], [], ?_, ?_, upd_same, Reps.nil, e2⟩, ?_⟩
      · intro a o n1 n2 e
        rw [upd_ne n2]
        exact e
      · exact d1.upd hD
      · rintro i m H2 ⟨rfl, hi, s3, acc, accV, keep, dc, hl, ra, er⟩
        have qD : q ≠ Dl := fun z => by
          unfold Dc at d1
          rw [z, hD] at d1
          cases d1
        have mono : Mono A' H1 H2 := ⟨fun a o n e => keep a o (fun z => n (.inl (z ▸ st1.aq))) (fun z => n (.inr z)) e, fun a xs e => keep a _ (fun z => by rw [z, d1] at e; cases e) (fun z => by rw [z, hD] at e; cases e) e,
          fun a o u e => keep a _ (fun z => by rw [z, d1] at e; cases e) (fun z => by rw [z, hD] at e; cases e) e⟩
        obtain ⟨yg, ys⟩ := y A' H2 g1 g2 mono ⟨_, dc⟩
        by_cases hlt : i < xs.length
        · have ed : xs.drop i = xs[i] :: xs.drop (i + 1) := List.drop_eq_getElem_cons hlt
          obtain ⟨jg, jy⟩ := yg i xs[i] (List.getElem?_eq_getElem hlt)
          refine .inr ⟨jg, fun H => i + 1 ≤ xs.length ∧ ∃ s3 acc accV, (∀ a o, a ≠ q → a ≠ Dl → H1 a = some o → H a = some o) ∧ Dc q H s3 ∧ H Dl = some (.lst accV) ∧ Reps X.K q A' H accV acc ∧ compD b mt me (xs.drop (i + 1)) acc s3 = .ok ds s2, fun H' hx => ⟨xs.length - (i + 1), by omega, rfl, hx⟩, fun v H3 hy => ?_⟩
          obtain ⟨k3, q3, x3, r3⟩ := jy v H3 hy
          have dc3 : Dc q H3 s3 := by unfold Dc at dc ⊢; rw [q3]; exact dc
          have mono3 : Mono A' H2 H3 := ⟨fun a o _ e => x3 a o e, fun a xs e => x3 a _ e, fun a o u e => x3 a _ e⟩
          have sl3 : Sl X.K q A' H3 σ ρ := ((st1.slots.grow g2).mono mono).mono mono3
          rw [ed] at er
          simp only [compD] at er
          have eb : b xs[i] = bindT t xs[i] (wipeE ρ own) := by rw [← hb]
          cases e3 : b xs[i] with
          | none => rw [e3] at er; cases er
          | some ρ' =>
            rw [e3] at er
            rw [eb] at e3
            refine gT_ok (sl3.wiped own) r3 e3 fun σ' sl' hl' ho' => ⟨?_, ?_⟩
            · have w1 : wipe σ' own = wipe (wipe σ own) own := wipe_eq (by rw [hl']) fun i hi => ho' i fun z => hi (ho i z)
              rw [w1]
              exact wipe_eq (wipe_length _ _) fun i hi => wipe_out hi
            · have st3 : St0 X.K q A' σ' ρ' H3 s3 := ⟨.inl st1.aq, fun a ha => by
                rcases ha with ha | rfl
                · by_cases z : a = q
                  · subst z; exact ⟨_, dc3⟩
                  · obtain ⟨o, e⟩ := st1.tr a ha
                    exact ⟨o, x3 a o (keep a o z (fun z => by rw [z, hD] at e; cases e) e)⟩
                · exact ⟨_, x3 _ _ hl⟩, dc3, sl'.sl, sl'.ln⟩
              refine ⟨q, A', ρ', s3, st3, ?_⟩
              simp only [M.bind] at er
              cases e4 : mt ρ' s3 with
              | exc _ _ => rw [e4] at er; cases er
              | no => rw [e4] at er; cases er
              | ok kb s4 =>
                rw [e4] at er
                intro H4 k4 d4
                have st4 := st3.go k4 d4
                have hl3 : H3 Dl = some (.lst accV) := x3 _ _ hl
                have hl4 : H4 Dl = some (.lst accV) := k4 _ _ (Ne.symm qD) hl3
                have keep4 : ∀ a o, a ≠ q → a ≠ Dl → H1 a = some o → H4 a = some o := fun a o n1 n2 e => k4 a o n1 (x3 a o (keep a o n1 n2 e))
                have ra4 : Reps X.K q A' H4 accV acc := Reps.mono (k4.mono st3.aq st3.dc) acc accV (Reps.mono mono3 acc accV ra)
                cases kb with
                | false =>
                  simp only [Bool.false_eq_true, if_false] at er ⊢
                  exact ⟨hlt, s4, acc, accV, keep4, d4, hl4, ra4, er⟩
                | true =>
                  simp only [if_true] at er ⊢
                  split at er
                  · rename_i hz
                    refine ⟨q, A', ρ', s4, st4, ?_⟩
                    simp only [M.bind] at er
                    cases e5 : me ρ' s4 with
                    | exc _ _ => rw [e5] at er; cases er
                    | no => rw [e5] at er; cases er
                    | ok dd s5 =>
                      rw [e5] at er
                      intro w H5 k5 d5 r5
                      have hl5 : H5 Dl = some (.lst accV) := k5 _ _ (Ne.symm qD) hl4
                      refine ⟨accV, hl5, by rw [ra4.length]; exact Nat.lt_of_lt_of_le hz lim_le, hlt, s5, acc ++ [dd], accV ++ [w], ?_, ?_, upd_same, ?_, er⟩
                      · intro a o n1 n2 e
                        rw [upd_ne n2]
                        exact k5 a o n1 (keep4 a o n1 n2 e)
                      · unfold Dc at d5 ⊢
                        rw [upd_ne qD]
                        exact d5
                      · have m5 : Mono A' H5 (upd H5 Dl (.lst (accV ++ [w]))) := ⟨fun a o n e => by rw [upd_ne (fun z => n (.inr z))]; exact e, fun a xs e => by rw [upd_ne (fun z => by rw [z, hl5] at e; cases e)]; exact e,
                          fun a o u e => by rw [upd_ne (fun z => by rw [z, hl5] at e; cases e)]; exact e⟩
                        exact Reps.append (Reps.mono m5 acc accV (Reps.mono (k5.mono st4.aq st4.dc) acc accV ra4)) (Reps.cons (Rep.mono m5 dd w r5) Reps.nil)
                  · cases er
        · have hi' : i = xs.length := by omega
          subst hi'
          refine .inl ⟨ys _ (Nat.le_refl _), ?_⟩
          rw [List.drop_length] at er
          cases er
          refine post _ _ (k1.trans fun a o n e => keep a o n (fun z => by rw [z, hD] at e; cases e) e) dc ?_
          rw [rep_lst]
          exact ⟨Dl, accV, rfl, nA, hl, Reps.anti g1 _ accV ra⟩
end
end Ev

/-! Ev8b: a text back to front. -/
namespace L2
open PySem PySem.Spec PyProof.Rows
section
variable {xx : XX} {X : Cx}
def tRevS (te : TE) : TE := fun σ H Q => te σ H fun x H1 => ∃ z : Str, x = .str z ∧ z.length ≤ sizeLine ∧ Q (.str ⟨z.cps.toList.reverse.toArray⟩) H1
theorem pick_back (z : Str) : (Builtin.Str.strSliceIndices none none (-1) z.length).filterMap (z.cps[·]?) = z.cps.toList.reverse := by
  show (sliceRange ((z.cps.size : Int) - 1) (-1) (-1)).filterMap (z.cps[·]?) = _
  rw [PySem.W.krv_sliceRange, PySem.W.krv_range, List.filterMap_reverse, PySem.W.krv_all]
theorem pe_revS {e : Expr} {te : TE} {k : Nat} {p1 p2 p3 pos : Pos} (he : PE X e te) : PE X (.Subscript e (.Slice none none (some (.UnaryOp .USub (.Constant (.int 1) k p1) p2)) p3) pos) (tRevS te) := by
  refine ⟨fun pins s σ H Q I h => ?_⟩
  refine Subscript_ (thn (he.run pins s σ H _ I h) fun v s1 ⟨x, H1, I1, r1, q1⟩ => ?_)
  obtain ⟨z, ex, hz, q⟩ := q1
  subst ex
  obtain ⟨t, rfl⟩ := r1
  have hst : PO X (some (.UnaryOp .USub (.Constant (.int 1) k p1) p2)) (tPart (tUn (rU fun i => .int (-i)) (tC (.int 1)))) := po_some (pe_un un_neg pe_int)
  refine wpAny_Slice (thn (po_none.run pins s1 σ H1 (fun o H2 => o = none ∧ H2 = H1) I1 ⟨rfl, rfl⟩) fun vl s2 ⟨l, H2, I2, pl, el, e2⟩ => ?_)
  subst el e2
  refine thn (po_none.run pins s2 σ H2 (fun o H3 => o = none ∧ H3 = H2) I2 ⟨rfl, rfl⟩) fun vu s3 ⟨u, H3, I3, pu, eu, e3⟩ => ?_
  subst eu e3
  refine thn (hst.run pins s3 σ H3 (fun o H4 => o = some (-1) ∧ H4 = H3) I3 ⟨1, rfl, -1, rfl, rfl, rfl⟩) fun vs s4 ⟨o, H4, I4, ps, eo, e4⟩ => ?_
  subst eo e4
  have I5 : Inv X pins σ H4 { s4 with heap := s4.heap.push { cls := .type "slice", data := .fields #[vl, vu, vs] } } := I4.kept (t' := s4.toks) fun b ob q => Heap.get?_push_of_some _ q
  obtain ⟨l, rfl, hl⟩ := IsPart.raw pl
  obtain ⟨u, rfl, hu⟩ := IsPart.raw pu
  obtain ⟨w, rfl, hw⟩ := IsPart.raw ps
  show wpAny (model X.prog X.w) X.A (subscriptTail e (.Slice none none (some (.UnaryOp .USub (.Constant (.int 1) k p1) p2)) p3) (.str z t) (.ref s4.heap.objs.size)) (EP X pins σ Q) X.xe { s4 with heap := s4.heap.push { cls := .type "slice", data := .fields #[partValue l, partValue u, partValue w] } }
  refine tail_any (ops := [.str z t, .ref s4.heap.objs.size]) (typeIs_str _ _ _) (F.slot_str_getitem.lookup) ?_ (by with_unfolding_all rfl)
  refine wpAny_getItem_str_slice (l := l) (u := u) (st := w) ⟨_, Heap.get?_push_size _ rfl, rfl, rfl⟩ (by rw [hw]; rfl) ?_
  unfold sliceMade
  rw [if_neg (by rw [hw]; simp)]
  unfold slicePicked
  rw [hl, hu, hw]
  show Made.post (Made.str ⟨((Builtin.Str.strSliceIndices none none (-1) z.length).filterMap (z.cps[·]?)).toArray⟩) _ _
  rw [pick_back]
  refine ⟨?_, .str _, H4, I5.tok _, ⟨_, rfl⟩, q⟩
  have e : z.cps.toList.reverse.toArray.size = z.length := by simp [Str.length]
  show z.cps.toList.reverse.toArray.size ≤ sizeLine
  rw [e]
  exact hz
end
end L2
namespace Ev
open PySem L2 PyProof.Rows
section
variable {xx : XX} {X : Cx}
theorem snd_rev {a : Expr} {ma : Env → M D} {k : Nat} {p1 p2 p3 pos : Pos} (ha : Snd xx X a ma) : Snd xx X (.Subscript a (.Slice none none (some (.UnaryOp .USub (.Constant (.int 1) k p1) p2)) p3) pos) (fun ρ => M.bind (ma ρ) fun x => M.opt (revD x)) := by
  refine snd_plain ((pe_revS ha.pe).imp fun σ H Q hr => ?_) (fun _ => rfl) rfl
  obtain ⟨q, A, ρ, s, st, post⟩ := hr
  refine seqE st post fun d s1 v H1 st1 k1 r1 p1 => ?_
  obtain ⟨z, e, k2⟩ := optE p1
  match d, e with
  | .str t, e =>
    have e' : (if t.length ≤ lim then some (D.str t.reverse) else none) = some z := e
    by_cases hl : t.length ≤ lim
    · rw [if_pos hl] at e'
      cases e'
      rw [rep_str] at r1
      obtain ⟨rfl, ok⟩ := r1
      refine ⟨_, rfl, by rw [strOf_len]; exact Nat.le_trans hl lim_le, ?_⟩
      rw [strOf_list]
      exact k2 _ _ Keep.refl st1.dc (by rw [rep_str]; exact ⟨rfl, by rw [List.all_reverse]; exact ok⟩)
    · rw [if_neg hl] at e'
      cases e'
end
end Ev

/-! X1: an own exception over ValueError whose __init__(self, p) says super().__init__(p); self.p = p. -/
namespace PySem
namespace SupX
open PySem.W PySem.Calls PyProof.Rows PySem.HandSPX
def iB (pn : Str) (a0 a1 a2 a3 a4 a5 b1 b2 b3 b4 : Pos) : List Stmt :=
  [.Expr (.Call (.Attribute (.Call (.Name "super" a0) [] [] a1) "__init__" a2) [.Name pn a3] [] a4) a5, .Assign [.Attribute (.Name "self" b1) pn b2] (.Name pn b3) b4]
/-- what the written part says of the class at C and of its __init__, at fI -/
structure SupTxt (P : Program) (K : Frag) (mg : Str → Option Value) (cn pn : Str) (C fI : Addr) : Prop where
  gC : mg cn = some (.ref C)
  gS : mg "super" = none
  cls : ∃ nm q N bs bm sn sub ab col dd k0 k1 k2 k3 k5, K.lookup C = some (excClassObj nm q C N bs bm true sn sub ab col dd k0 k1 k2 k3 k5 "ValueError.__new__") ∧ refsVE bm = true
  sa : findIn K (.ref C) "__setattr__" = some (some (.builtin "object.__setattr__"))
  ga : findIn K (.ref C) "__getattribute__" = some (some (.builtin "BaseException.__getattribute__"))
  gg : findIn K (.ref C) "__getattr__" = some none
  noN : findIn K (.ref C) pn = some none
  iC : findIn K (.ref C) "__init__" = some (some (.ref fI))
  tC : typeIn K (.ref fI) = some (.type "function")
  kC : keepIn K (.ref C) = true
  exC : subIn K (.ref C) (.type "BaseException") = some true
  veC : subIn K (.ref C) (.type "ValueError") = some true
  tyC : typeIn K (.ref C) = some (.type "type")
  selfC : mroIn K C (.ref C) = some true
  tp : nsIn K cStatics "thirdparty.any" = some none
  sup : ks_superIn K C C "__init__" = some (some (.builtin "ValueError.__init__"))
  ne : ("self" == pn) = false
  dbg : (pn == ("__debug__" : Str)) = false
  htop : (P.main.scope.names.lookup ("super" : Str)).isSome = false
  fn : ∃ (oc : Value) (od : Option Addr) (qual : Str) (ps : Arguments) (scope : Scope) (doc pm : Value) (an : Option Addr) (cda cc : Addr) (ct : Value) (osl : Array (Option Value)) (a0 a1 a2 a3 a4 a5 b1 b2 b3 b4 : Pos) (hline : (a2.endLine == a4.line) = true) (ar : Arg) (cl ccl : Value) (cld cdd : Option Addr) (csl ccs : Array (Option Value)) (vs : Array Value) (file : Str) (tf : Tok),
    K.lookup fI = some ⟨oc, od, .func (ksFn "__init__" qual ps (iB pn a0 a1 a2 a3 a4 a5 b1 b2 b3 b4) scope .none .none doc pm an (.ref cda) ct cc), osl⟩ ∧ codeIn K (.ref cda) qual = true ∧
    K.lookup cc = some ⟨cl, cld, .cell (some (.ref C)), csl⟩ ∧ K.lookup cda = some ⟨ccl, cdd, .fields vs, ccs⟩ ∧ vs[2]? = some (.str file tf) ∧ ((P.main.file : Str) == file) = true ∧
    (ps.posonlyargs ++ ps.args).head? = some ar ∧ ar.arg = "self" ∧
    (∀ (s : Shared) (x v : Value), BindsTo s (ksFn "__init__" qual ps (iB pn a0 a1 a2 a3 a4 a5 b1 b2 b3 b4) scope .none .none doc pm an (.ref cda) ct cc) ⟨[x, v], []⟩ [("self", x), (pn, v)]) ∧
    scope.names.lookup ("super" : Str) = some .globalImplicit ∧ scope.names.lookup ("__class__" : Str) = some .free ∧ scope.names.lookup ("self" : Str) = some .local ∧ scope.names.lookup pn = some .local ∧
    (∀ x ∈ scope.names, x.2 ≠ .cell) ∧ scope.kind = .function ∧ scope.isCoroutine = false ∧ scope.isGenerator = false
/-- what __init__ leaves of a fresh exception at x -/
structure InitEnd (pn : Str) (h h' : Heap) (x C dx t1 : Addr) (v : Value) : Prop where
  keep : ∀ b o, b ≠ x → h.get? b = some o → h'.get? b = some o
  obj : h'.get? x = some { cls := .ref C, dict := some dx, data := .fields #[.ref t1, .none, .none, .none, .bool false, .none] }
  dbig : h.objs.size ≤ dx
  dne : dx ≠ x
  ns : h'.Ns1 dx (fun y => if y = pn then some v else none)
/-- a made exception -/
structure OwnMade (pn : Str) (h h' : Heap) (e C d : Addr) (v : Value) : Prop where
  keep : ∀ b o, h.get? b = some o → h'.get? b = some o
  new : h.objs.size ≤ e
  obj : ∃ oe vs, h'.get? e = some oe ∧ oe.cls = .ref C ∧ oe.dict = some d ∧ oe.data = .fields vs ∧ vs[1]? = some .none
  dbig : h.objs.size ≤ d
  dne : d ≠ e
  ns : h'.Ns1 d (fun y => if y = pn then some v else none)
def lm (pn : Str) (x : Addr) (v : Value) : Str → Option Value := fun y => List.lookup y ([(pn, v), (("self" : Str), .ref x)] : List (Str × Value))
theorem one_size (v : Value) : [v].length ≤ sizeLine := by
  rw [sizeLine_eq]
  exact (by decide : 1 ≤ 16777216)
section
variable {prog : Program} {w : World} {A : Around} {E : Value → Shared → Prop} {R : Result → Shared → Prop} {s : Shared} {K : Frag} {mg : Str → Option Value} {cn pn : Str} {C fI : Addr}
theorem at_method {c : Code} {env : Env} {o e : Expr} {name : Str} {apos pos : Pos} {Q : Value → Shared → Prop} (hline : (apos.endLine == pos.line) = true)
    (h : _root_.PySem.wpAt (model prog w) A c (attributeBase o name env (eval o env)) (fun ov s₁ => ∀ pl, wpAny (model prog w) A (getMethod ov name pl) (fun fx s₂ => wpAny (model prog w) A (callWith pos fx.1 fx.2 (backTo pos (starEach [e] env)) []) Q E s₂) E s₁) E s) (he : starEach [e] env = [(false, eval e env)] := by rfl) :
    _root_.PySem.wpAt (model prog w) A c (eval (.Call (.Attribute o name apos) [e] [] pos) env) Q E s := by
  rw [arm_eval_Call]
  refine wpAt_bind (wpAt_mono h (fun ov s₁ h₁ => wpAt_of_wpAny (wpAny_bind (wpAny_standAt ?_))) fun _ _ x => x)
  have hform : methodCallForm ([e].length + ([] : List Keyword).length) (backTo pos (starEach [e] env)) (backToKw pos (keywordEach [] env)) = true := by rw [he]; rfl
  have hpos : methodCallPos true o env apos pos = pure pos := by unfold methodCallPos; simp [hline]
  unfold methodCall
  rw [hform]
  refine wpAny_bind (wpAny_holding (wpAny_mono (h₁ _) (fun fx s₂ h₂ => ?_) fun _ _ x => x))
  exact wpAny_bind (wpAny_of_eq hpos h₂)
/-- ValueError.__init__ bound to the exception at e, called -/
theorem call_mw {h : Heap} {g : Array GenState} {d : Drawn} {t : Nat} {os : OsState} {nm q : Str} {N : Addr} {bs bm : List Value} {hdct : Bool} {sn : List Str} {sub : List Value} {ab : Bool} {col : Option Bool} {dd : Option Addr} {k0 k1 k2 k3 k5 : Option Value}
    {u e t0 : Addr} {rest : List Value} {Q : Value → Shared → Prop}
    (hC : h.get? C = some (excClassObj nm q C N bs bm hdct sn sub ab col dd k0 k1 k2 k3 k5 "ValueError.__new__")) (he : h.get? e = some (excO C t0)) (hu : h.get? u = some (kxs_mw "ValueError.__init__" e)) (hrest : rest.length ≤ sizeLine)
    (hq : ∀ h' t1, (∀ b o, b ≠ e → h.get? b = some o → h'.get? b = some o) → h'.get? e = some (excO C t1) → Q .none ⟨h', g, d, t, os⟩) :
    wpAny (model prog w) A (call (.ref u) rest) Q E ⟨h, g, d, t, os⟩ := by
  refine wpAny_call (codeAny_of_tree ?_)
  show wpAny _ A.in1 (callAny (.ref u) ⟨rest, []⟩) _ _ _
  simp only [callAny]
  refine wpAny_bind (wpAny_load hu ?_)
  simp only [kxs_mw, show (Value.type "method-wrapper" == Value.type "method" || Value.type "method-wrapper" == Value.type "builtin_function_or_method" || Value.type "method-wrapper" == Value.type "method-wrapper") = true by decide, if_true]
  refine KFB.if_so (by decide) ?_
  refine wpAny_bind (check_bound_init F.excBase_ValueError.toExcCallFacts hC he rfl ?_)
  refine wpAny_bind (wpAny_pure (wpAny_pure ?_))
  refine ⟨plainId_quiet F.excBase_ValueError.init.plain _, codeAny_builtin F.excBase_ValueError.initEntry ?_⟩
  exact exc_init_tree (cls := .ref C) (t0 := t0) (dv := none) (c2 := .none) (c3 := .none) (b4 := .bool false) he hrest fun h' k e' _ => hq h' _ k e'
theorem sup_init (T : SupTxt prog K mg cn pn C fI) {x t0 : Addr} {v : Value} (X : K.In s.heap) (hlim : s.heap.NoLimit) (hgl : s.heap.Ns mainGlobals mg) {mb : Str → Option Value} (hbl : s.heap.Ns builtinsNs mb) (hmb : mb "super" = some (.type "super"))
    (hx : s.heap.get? x = some (excO C t0)) (hnx : K.lookup x = none) (hroom : A.depth < recursionLimit)
    (hq : ∀ h' tk dx t1, InitEnd pn s.heap h' x C dx t1 v → R (.ok (.ret .none)) { s with heap := h', toks := tk }) :
    codeAny (model prog w) A (.call (.ref fI) ⟨[.ref x, v], []⟩) R s := by
  obtain ⟨oc, od, qual, ps, scope, doc, pm, an, cda, cc, ct, osl, a0, a1, a2, a3, a4, a5, b1, b2, b3, b4, hline, ar, cl, ccl, cld, cdd, csl, ccs, vs, file, tf, ho, hcd, hcc, hco, hvs, hfile, har, harg, hbind, n1, n2, n3, n4, ncell, hkind, hcor, hgen⟩ := T.fn
  obtain ⟨nm, q, N, bs, bm, sn, sub, ab, col, dd, k0, k1, k2, k3, k5, hC, hbm⟩ := T.cls
  have hcl : clsIn K C = some { name := nm, bases := bs, mro := .ref C :: bm, ns := N, qualname := q, hasDict := true, slotNames := sn, subclasses := sub, abstract := ab, collection := col, hasDel := false } := by unfold clsIn; rw [hC] <;> rfl
  refine ks_codeAny_call_defAt (fd := ksFn "__init__" qual ps (iB pn a0 a1 a2 a3 a4 a5 b1 b2 b3 b4) scope .none .none doc pm an (.ref cda) ct cc) (binds := [("self", .ref x), (pn, v)]) hroom (X _ _ ho) rfl hlim (codeRec_of X hcd) rfl (hbind s (.ref x) v) ncell (fun y hy => ?_) (fun h₁ hn k => ?_) hcor hgen hkind
  · simp only [List.mem_cons, List.not_mem_nil, or_false] at hy
    rcases hy with rfl | rfl
    · exact n3
    · exact n4
  obtain ⟨hp, g, dr, tk, os⟩ := s
  have X₁ : K.In h₁ := X.keeps k
  have hx₁ := k _ _ hx
  have ms : lm pn x v "self" = some (.ref x) := by
    unfold lm
    rw [List.lookup_cons, T.ne]
    rfl
  have mv : lm pn x v pn = some v := by
    unfold lm
    rw [List.lookup_cons, beq_self_eq_true]
  have hn : h₁.Ns hp.objs.size (lm pn x v) := hn
  have hxL : hp.objs.size ≠ x := Nat.ne_of_gt (Heap.lt_size hx)
  have ld : ∀ {A : Around} {E : Value → Shared → Prop} {h2 : Heap} {tk2 : Nat} {Q : Value → Shared → Prop} {y : Str} {u : Value} {p : Pos}, h2.Ns hp.objs.size (lm pn x v) → (lm pn x v) y = some u → scope.names.lookup y = some .local → (y == ("__debug__" : Str)) = false → Q u ⟨h2, g, dr, tk2, os⟩ →
      wpAny (model prog w) A (eval (.Name y p) (ksEnv qual scope hp.objs.size fI (.ref cda) cc)) Q E ⟨h2, g, dr, tk2, os⟩ := fun hn hv hl hd h => wpAny_Name (wpAny_loadName_local hkind hl hn hv h) hd
  have hint : interactive (ksEnv qual scope hp.objs.size fI (.ref cda) cc) = false := by
    unfold interactive
    simp [hkind]
  -- super().__init__(p)
  show _root_.PySem.wpAt _ _ _ (execs _ (ksEnv qual scope hp.objs.size fI (.ref cda) cc)) _ _ _
  refine ks_wpAt_execs_cons (ks_wpAt_Expr_any (at_method hline ?_) hint)
  have hD1 := X₁ _ _ hC
  refine ks_wpAt_super_base (env := ksEnv qual scope hp.objs.size fI (.ref cda) cc) (ar := ar) n1 n2 (by decide) rfl (X₁ _ _ ho) rfl har rfl (X₁ _ _ hco) rfl hvs hfile T.htop ?_
  refine ks_loadName_global hkind n1 (loadGlobal_builtin (env := ksEnv qual scope hp.objs.size fI (.ref cda) cc) (hgl.keeps k) T.gS (hbl.keeps k) hmb ⟨rfl, ?_⟩)
  refine wpAny_loadName_free hkind n2 rfl ⟨_, X₁ _ _ hcc, rfl⟩ ?_
  rw [harg]
  refine wpAny_loadName_local hkind n3 hn ms ?_
  refine ks_wpAny_isType_cls hD1 rfl ⟨rfl, ?_⟩
  refine ks_wpAny_call_super hD1 rfl hx₁ rfl (fun c e => by cases e) (looks_mroIn X₁ T.selfC) (fun h₂ e2 k₂ pl => ?_)
  have X₂ : K.In h₂ := X₁.keeps k₂
  have I₁ : InstAt h₁ x (excO C t0) C none := ⟨hx₁, rfl, rfl, trivial⟩
  have I₂ : InstAt h₂ x (excO C t0) C none := ⟨k₂ _ _ hx₁, rfl, rfl, trivial⟩
  have hsup := T.sup
  unfold ks_superIn at hsup
  rw [hcl, Option.bind_some] at hsup
  refine kxs_getMethod kxs_ValueError e2 (looks_opaque X₂ T.tp) (l₀ := .ref C :: bm) (fun A Q E s k q => wpAny_bind ((looks_clsIn X₂ hcl) A _ E s k (wpAny_pure q))) rfl X₂ hsup (I₂.type.andThen (looks_subIn X₂ T.veC)) (ks_ne X₁ I₁ hcl) (by decide) ?_
  have k₃ : ∀ b o, h₂.get? b = some o → (h₂.push (kxs_mw "ValueError.__init__" x)).get? b = some o := fun b o e => Heap.get?_push_of_some _ e
  have X₃ := X₂.keeps k₃
  have hn₃ : (h₂.push (kxs_mw "ValueError.__init__" x)).Ns hp.objs.size (lm pn x v) := (hn.keeps k₂).keeps k₃
  have hmw : (h₂.push (kxs_mw "ValueError.__init__" x)).get? h₂.objs.size = some (kxs_mw "ValueError.__init__" x) := Heap.get?_push_at rfl rfl
  generalize hh₃ : h₂.push (kxs_mw "ValueError.__init__" x) = h₃ at k₃ X₃ hn₃ hmw
  refine kxs_callWith (u := h₂.objs.size) (i := "ValueError.__init__") (x := x) (args := backTo a4 (starEach [.Name pn a3] (ksEnv qual scope hp.objs.size fI (.ref cda) cc))) rfl (evalArgs_plain ?_)
  refine spliced_more (e := .Name pn a3) (rest := []) ?_
  refine ld hn₃ mv n4 T.dbg ?_
  refine spliced_none ⟨hmw, ?_⟩
  refine call_mw (X₃ _ _ hC) (k₃ _ _ (k₂ _ _ hx₁)) hmw (one_size v) (fun h₄ t1 k₄ hx₄ => ?_)
  have X₄ : K.In h₄ := fun a o e => k₄ a o (fun z => by rw [z, hnx] at e; cases e) (X₃ a o e)
  have hn₄ : h₄.Ns hp.objs.size (lm pn x v) := by
    obtain ⟨oL, es, ep, hL, r⟩ := hn₃
    exact ⟨oL, es, ep, k₄ _ _ hxL hL, r⟩
  -- self.p = p
  show _root_.PySem.wpAt _ _ _ (execs _ (ksEnv qual scope hp.objs.size fI (.ref cda) cc)) _ _ _
  refine ks_wpAt_execs_cons (ks_wpAt_Assign_Attr (wpAt_of_wpAny ?_))
  refine ld hn₄ mv n4 T.dbg (ld hn₄ ms n3 (by decide) ?_)
  refine set_plain X₄ (ox := excO C t1) (od := none) ⟨hx₄, rfl, rfl, trivial⟩ T.sa ?_
  refine exc_osa X₄ hx₄ hcl (show refsVE (.ref C :: bm) = true from hbm) rfl T.noN (fun h₅ tk₅ dx k₅ dn dne hx₅ hn₅ => ?_)
  show _root_.PySem.wpAt _ _ _ (execs _ _) _ _ _
  refine wpAt_of_wpAny (wpAny_execs_nil (hq h₅ tk₅ dx t1 ⟨fun b o hb e => k₅ b o hb (k₄ b o hb (k₃ b o (k₂ b o (k b o e)))), hx₅, ?_, dne, hn₅⟩))
  have z : hp.objs.size < h₄.objs.size := hn₄.lt
  exact Nat.le_of_lt (Nat.lt_of_lt_of_le z dn)
theorem sup_made (T : SupTxt prog K mg cn pn C fI) {v : Value} (X : K.In s.heap) (hlim : s.heap.NoLimit) (hgl : s.heap.Ns mainGlobals mg) {mb : Str → Option Value} (hbl : s.heap.Ns builtinsNs mb) (hmb : mb "super" = some (.type "super")) (hroom : A.depth + 1 < recursionLimit)
    (hq : ∀ h' tk e d, OwnMade pn s.heap h' e C d v → R (.ok (.ret (.ref e))) { s with heap := h', toks := tk }) :
    codeAny (model prog w) A (.call (.ref C) ⟨[v], []⟩) R s := by
  obtain ⟨nm, q, N, bs, bm, sn, sub, ab, col, dd, k0, k1, k2, k3, k5, hC, hbm⟩ := T.cls
  obtain ⟨hp, g, dr, tk, os⟩ := s
  have k : ∀ b o, hp.get? b = some o → ((hp.push (kdv_tup [v])).push (excO C hp.objs.size)).get? b = some o := fun b o e => Heap.get?_push_of_some _ (Heap.get?_push_of_some _ e)
  have hget : ((hp.push (kdv_tup [v])).push (excO C hp.objs.size)).get? (hp.objs.size + 1) = some (excO C hp.objs.size) := by heap_get
  have hnx : K.lookup (hp.objs.size + 1) = none := by
    cases e : K.lookup (hp.objs.size + 1) with
    | none => rfl
    | some o =>
      have z : hp.get? (hp.objs.size + 1) = some o := X _ _ e
      exact absurd (Nat.lt_of_succ_lt (Heap.lt_size z)) (Nat.lt_irrefl _)
  refine call_own F.excBase_ValueError (fun X => refsVE_contains X bm hbm) (X _ _ hC) (looks_findIn X T.iC) (fun self => bind_fn X self T.tC) (one_size v) ?_
  refine sup_init (s := ⟨(hp.push (kdv_tup [v])).push (excO C hp.objs.size), g, dr, tk, os⟩) T (X.keeps k) (hlim.keeps k) (hgl.keeps k) (hbl.keeps k) hmb hget hnx ?_ fun h' tk' dx t1 ⟨k', hx, dn, dne, hns⟩ => ?_
  · show A.depth + 1 < recursionLimit
    exact hroom
  · have old : ∀ b o, hp.get? b = some o → h'.get? b = some o := fun b o e => k' b o (Nat.ne_of_lt (Nat.lt_succ_of_lt (Heap.lt_size e))) (k b o e)
    have z : hp.objs.size + 1 + 1 ≤ dx := by
      first
        | (simpa only [Heap.size_push] using dn)
        | exact dn
        | (have q := dn; rw [Heap.size_push, Heap.size_push] at q; exact q)
    exact ⟨rfl, hq h' tk' (hp.objs.size + 1) dx ⟨old, Nat.le_succ _, ⟨_, _, hx, rfl, rfl, rfl, rfl⟩, Nat.le_trans (Nat.le_trans (Nat.le_succ _) (Nat.le_succ _)) z, dne, hns⟩⟩
end
end SupX
end PySem
namespace L2
open PySem PySem.Spec PyProof.Rows
theorem relO_sup {pn : Str} {v : V} {v' : Value} (r : RelV v v') (f : Str) : RelO (List.lookup f [(pn, v)]) (if f = pn then some v' else none) := by
  by_cases hw : f = pn
  · subst hw
    rw [if_pos rfl]
    have q : List.lookup f [(f, v)] = some v := by simp [List.lookup]
    rw [q]
    exact r
  · rw [if_neg hw]
    have qw : (f == pn) = false := by simpa using hw
    have q2 : List.lookup f [(pn, v)] = none := by simp [List.lookup, qw]
    rw [q2]
    trivial
section
variable {X : Cx} {C fI : Addr} {cn pn : Str}
/-- C(e) -/
def tMkSup (C : Addr) (pn : Str) (ta : TA) : St → Hp → XK → Prop := fun σ H Q => ta σ H fun vs H1 => ∃ v, vs = [v] ∧ ∀ d, H1 d = none → Q (.ref C) (some d) (upd H1 d (.xd [(pn, v)]))
theorem pmk_sup {a : Expr} {ta : TA} {p pos : Pos} {k : Nat} (T : PySem.SupX.SupTxt X.prog X.K X.mg cn pn C fI) (hr : Room k X.A) (ha : PA X [a] ta) (hg : Gl X cn) (hdb : (cn == ("__debug__" : Str)) = false)
    (he : starEach (a :: []) X.env = (false, eval a X.env) :: starEach [] X.env := by rfl) (hpl : (backTo pos (starEach [] X.env)).any (·.1) = false := by rfl) :
    PMk X (.Call (.Name cn p) [a] [] pos) (tMkSup C pn ta) := by
  intro pins s σ H Q I h
  refine wpAny_Call_Name_kw (ld_glob I hg T.gC ?_ hdb)
  refine PySem.W.callWith_K (h₀ := X.base) I.ok.mod.kin T.kC (thn (ha.run pos pins s σ H _ I h) fun us s1 hh => ?_) he hpl
  obtain ⟨vs, H1, I1, r1, v, ev, q1⟩ := hh
  subst ev
  refine ⟨I1.kIn, ?_⟩
  cases r1 with
  | cons rv rn =>
    rename_i v' us'
    cases rn
    show wpAny _ _ (call (.ref C) [v']) _ _ _
    have hlim := I1.nolimit
    obtain ⟨mb, b1, b2⟩ := I1.mod.blt
    have hmb : mb "super" = some (.type "super") := (b2 "super" (by decide)).trans (by kernel_rfl)
    have hgl := I1.mod.glob.keeps I1.bk
    have hbl := b1.keeps I1.bk
    obtain ⟨hp, g, dr, tk, os⟩ := s1
    refine wpAny_call (PySem.SupX.sup_made T I1.kIn hlim hgl hbl hmb (by have := hr.dp; omega) fun h' tk' e d M => ?_)
    show MkP X pins σ Q (.ref e) ⟨h', g, dr, tk', os⟩
    obtain ⟨oe, fv, hoe, hc, hd, hdat, h1⟩ := M.obj
    have hns := M.ns
    obtain ⟨G', g1, g2⟩ := restrict h' fun b => decide (b ≠ e)
    have gk : ∀ b, b ≠ e → G'.get? b = h'.get? b := fun b hb => g1 b (decide_eq_true hb)
    have ge : G'.get? e = none := g2 e (by simp)
    have old : ∀ b o, hp.get? b = some o → G'.get? b = some o := fun b o q => (gk b (Nat.ne_of_lt (Nat.lt_of_lt_of_le (Heap.lt_size q) M.new))).trans (M.keep b o q)
    have ob : ObjOk X.prog X.w (upd H1 d (.xd [(pn, v)])) G' d (.xd [(pn, v)]) :=
      ⟨_, hns.at (fun o q => (gk d M.dne).trans q), fun f => relO_sup rv f⟩
    have J : Inv X pins σ (upd H1 d (.xd [(pn, v)])) ⟨G', g, dr, tk', os⟩ := I1.laid (t' := tk') old M.dbig ob
    refine ⟨e, oe, fv, ⟨G', g, dr, tk', os⟩, _, .ref C, some d, rfl, J, fun b o q => ?_, ge, hoe, ⟨hc, hd⟩, hdat, h1, ?_, rfl, I1.bare, raises_own T.exC T.tyC, q1 d (I1.hok.fresh M.dbig)⟩
    · by_cases hb : b = e
      · have q' : G'.get? b = some o := q
        rw [hb, ge] at q'; cases q'
      · exact (gk b hb).symm.trans q
    · rw [upd_ne (Ne.symm M.dne)]
      exact I1.hok.fresh M.new
end
end L2

/-! Ev9: code against syntax; expressions by induction. -/
namespace Ev
open PySem L2 PyProof.Rows

/-- what is known of a class of exceptions -/
def XCls (P : Program) (K : PySem.W.Frag) (mg : Str → Option Value) (cn : Str) (f : Option Str) (C : Addr) : Prop := match f with
  | none => mg cn = some (.ref C) ∧ PySem.W.excIn K C [.type "ValueError", .type "Exception", .type "BaseException", .type "object"] "ValueError.__new__" = true ∧ PySem.W.keepIn K (.ref C) = true ∧ PySem.W.subIn K (.ref C) (.type "BaseException") = some true ∧ PySem.W.typeIn K (.ref C) = some (.type "type")
  | some pn => PySem.W.hasDictIn K C = true ∧ ∃ fI, PySem.SupX.SupTxt P K mg cn pn C fI
theorem XCls.glo {P : Program} {K : PySem.W.Frag} {mg : Str → Option Value} {cn : Str} {f : Option Str} {C : Addr} (h : XCls P K mg cn f C) : mg cn = some (.ref C) := by
  cases f with
  | none => exact h.1
  | some pn => exact h.2.choose_spec.gC
structure Gam where
  N : List Str
  con : List Str
  fns : List (Str × Nat)
  free : List Str
  exc : List (Str × Option Str)
def visB (sc : Scope) (x : Str) : Bool := match sc.names.lookup x with
  | some .local => true
  | some .cell => true
  | some .free => true
  | _ => false
def stB (sc : Scope) (x : Str) : Bool := match sc.names.lookup x with
  | some .local => true
  | some .cell => true
  | _ => false
def glB (sc : Scope) (x : Str) : Bool := match sc.names.lookup x with
  | some .globalImplicit => true
  | _ => false
def notDbg (x : Str) : Bool := !(x == ("__debug__" : Str))
def tyNames : List (String) := ["str", "int", "bool", "tuple", "list", "dict"]
def ownN (N : List Str) (own : List Nat) : List (Str × Nat) := own.filterMap fun i => (N[i]?).map fun x => (x, i)
def Cs.len : Cs → Nat
  | .nil => 0
  | .cons _ es => es.len + 1
def isTuple : Expr → Bool
  | .Tuple _ _ _ => true
  | _ => false
section
variable (G : Gam)
mutual
def okE : C → Scope → Expr → Bool
  | .c d, sc, ex => match ex with
    | .Constant k _ _ => constOk d k
    | _ => false
  | .g k, sc, ex => match ex with
    | .Name x _ => decide (G.con[k]? = some x) && glB sc x && notDbg x
    | _ => false
  | .v i, sc, ex => match ex with
    | .Name x _ => decide (G.N[i]? = some x) && visB sc x && notDbg x && !(x == ("__classdict__" : Str))
    | _ => false
  | .ty n, sc, ex => match ex with
    | .Name x _ => decide (x = Str.ofString n) && tyNames.contains n && G.free.contains x && glB sc x
    | _ => false
  | .tup es, sc, ex => match ex with
    | .Tuple xs _ _ => okEs es sc xs
    | _ => false
  | .lst es, sc, ex => match ex with
    | .List xs _ => okEs es sc xs
    | _ => false
  | .dnew, sc, ex => match ex with
    | .Dict [] [] _ => true
    | _ => false
  | .bin o a b, sc, ex => match ex with
    | .BinOp x o' y _ => decide (o = o') && okE a sc x && okE b sc y
    | _ => false
  | .cmp o a b, sc, ex => match ex with
    | .Compare x [o'] [y] _ => decide (o = o') && notSet y && okE a sc x && okE b sc y
    | _ => false
  | .chn o p a b c, sc, ex => match ex with
    | .Compare x [o', p'] [y, z] _ => decide (o = o') && decide (p = p') && notSet z && okE a sc x && okE b sc y && okE c sc z
    | _ => false
  | .one a, sc, ex => match ex with
    | .BoolOp _ [x] _ => okE a sc x
    | _ => false
  | .and_ a b, sc, ex => match ex with
    | .BoolOp .And (x :: y :: r) pos => okE a sc x && okE b sc (.BoolOp .And (y :: r) pos)
    | _ => false
  | .or_ a b, sc, ex => match ex with
    | .BoolOp .Or (x :: y :: r) pos => okE a sc x && okE b sc (.BoolOp .Or (y :: r) pos)
    | _ => false
  | .not_ a, sc, ex => match ex with
    | .UnaryOp .Not x _ => okE a sc x
    | _ => false
  | .neg a, sc, ex => match ex with
    | .UnaryOp .USub x _ => okE a sc x
    | _ => false
  | .ite t a b, sc, ex => match ex with
    | .IfExp c x y _ => okE t sc c && okE a sc x && okE b sc y
    | _ => false
  | .call f es, sc, ex => match ex with
    | .Call (.Name x _) args [] _ => (match G.fns[f]? with
      | some (y, np) => decide (x = y) && decide (args.length = np)
      | none => false) && glB sc x && notDbg x && !args.isEmpty && okEs es sc args
    | _ => false
  | .bi f es, sc, ex => match ex with
    | .Call (.Name x _) args [] _ => decide (x = f.name.1) && G.free.contains x && glB sc x && !args.isEmpty && okEs es sc args
    | _ => false
  | .mt m o es, sc, ex => match ex with
    | .Call (.Attribute x name apos) args [] cpos => decide (name = m.name.1) && notCall0 x && (apos.endLine == cpos.line) && decide (args.length < 20) && okE o sc x && okEs es sc args
    | _ => false
  | .ix a b, sc, ex => match ex with
    | .Subscript x y _ => notSlice y && okE a sc x && okE b sc y
    | _ => false
  | .sl a lo hi, sc, ex => match ex with
    | .Subscript x (.Slice l h none _) _ => okE a sc x && okCo lo sc l && okCo hi sc h
    | _ => false
  | .comp e tg it t own, sc, ex => match ex with
    | .ListComp elt [⟨tgt, iter, ifs, k⟩] scope _ => decide (k = 0) && okIt it sc tgt iter && tgOk G.N (stB scope) tg tgt && okCt t (relS scope sc) ifs && okE e (relS scope sc) elt
      && blkC G.N sc scope (ownN G.N own) && decide ((ownN G.N own).map (·.2) = own) && tg.slots.all (fun i => own.contains i) && notSet iter
    | _ => false
  | .rev a, sc, ex => match ex with
    | .Subscript x (.Slice none none (some (.UnaryOp .USub (.Constant (.int 1) _ _) _)) _) _ => okE a sc x
    | _ => false
def okEs : Cs → Scope → List Expr → Bool
  | .nil, _, [] => true
  | .cons e es, sc, x :: xs => notStar x && okE e sc x && okEs es sc xs
  | _, _, _ => false
def okCo : Co → Scope → Option Expr → Bool
  | .none, _, none => true
  | .some e, sc, some x => okE e sc x
  | _, _, _ => false
def okCt : Co → Scope → List Expr → Bool
  | .none, _, [] => true
  | .some e, sc, [x] => okE e sc x
  | _, _, _ => false
def okIt : It → Scope → Expr → Expr → Bool
  | .rng a, sc, _, e => match e with
    | .Call (.Name x _) [y] [] _ => decide (x = "range") && G.free.contains x && glB sc x && notStar y && okE a sc y
    | _ => false
  | .rng2 a b, sc, _, e => match e with
    | .Call (.Name x _) [y, z] [] _ => decide (x = "range") && G.free.contains x && glB sc x && notStar y && notStar z && okE a sc y && okE b sc z
    | _ => false
  | .seq a, sc, _, e => okE a sc e
  | .enum a, sc, tg, e => match e with
    | .Call (.Name x _) [y] [] _ => decide (x = "enumerate") && isTuple tg && G.free.contains x && glB sc x && notStar y && okE a sc y
    | _ => false
end
end
/-- what is known where code runs -/
structure XF (xx : XX) (G : Gam) (con : List D) (F : Nat → List D → M D) (n : Nat) (sc : Scope) (X : Cx) : Prop where
  calm : X.calm = true
  nd : X.N.Nodup
  hN : X.N = G.N
  hs : X.env.scope = sc
  room : Room n X.A
  clen : con.length = G.con.length
  cok : ∀ (k : Nat) (x : Str) (d : D), G.con[k]? = some x → con[k]? = some d → ∃ v u, X.mg x = some u ∧ RelV v u ∧ ∀ q A H, Rep X.K q A H v d
  free : ∀ x ∈ G.free, X.mg x = none
  fns : ∀ (f : Nat) (x : Str) (np : Nat), G.fns[f]? = some (x, np) → ∃ a fd ps, X.mg x = some (.ref a) ∧ PySem.W.keepIn X.K (.ref a) = true ∧ Binds X.K fd ps [] ∧ FnOk X.prog X.w X.K X.mg X.base (L2.CX X.prog X.w) n a fd ps (spF xx.T X.K np (F f))
  tk : Tk xx X
  exc : ∀ (k : Nat) (cn : Str) (f : Option Str), G.exc[k]? = some (cn, f) → ∃ C, xx.T[k]? = some (C, f) ∧ XCls X.prog X.K X.mg cn f C
  exm : ∀ (j k : Nat) (C C' : Addr) (f f' : Option Str), xx.T[j]? = some (C, f) → xx.T[k]? = some (C', f') → PySem.W.exmOne X.K (.ref C) (.ref C') = some (j == k)
section
variable {xx : XX} {G : Gam} {con : List D} {F : Nat → List D → M D} {n : Nat} {sc : Scope} {X : Cx}
theorem vis_of {x : Str} (h : visB sc x = true) : Vis sc x := by
  unfold visB at h
  split at h <;> first | exact .inl (by assumption) | exact .inr (.inl (by assumption)) | exact .inr (.inr (by assumption)) | cases h
theorem gl_of {x : Str} (hs : X.env.scope = sc) (h : glB sc x = true) : Gl X x := by
  unfold glB at h
  split at h
  · rename_i e
    unfold Gl
    show X.env.scope.names.lookup x = _
    rw [hs]
    exact e
  · cases h
theorem dbg_of {x : Str} (h : notDbg x = true) : (x == ("__debug__" : Str)) = false := by
  unfold notDbg at h
  simpa using h
theorem boot_ty {s : String} (h : tyNames.contains s = true) : bootBuiltins (Str.ofString s) = some (.type s) ∧ Str.ofString s ≠ "__name__" ∧ (Str.ofString s == ("__debug__" : Str)) = false := by
  have key : ∀ s ∈ tyNames, bootBuiltins (Str.ofString s) = some (.type s) ∧ Str.ofString s ≠ "__name__" ∧ (Str.ofString s == ("__debug__" : Str)) = false := by decide +kernel
  exact key s (by simpa using h)
/-- nothing may leave -/
abbrev XX.shut (xx : XX) : XX := ⟨xx.T, fun _ _ _ => False⟩
theorem tk_shut : Tk xx.shut X := fun u s' ⟨_, _, _, _, _, _, _, _, _, _, _, _, _, _, _, _, h⟩ => h.elim
theorem XF.blk (x : XF xx G con F n sc X) (s : Shared) (H : Hp) (scope : Scope) (cl : List (Str × Addr)) (C : Addr) (fp : List Addr) : XF xx.shut G con F n (relS scope sc) (X.blk s H scope (compEnvC scope cl C X.env) fp) :=
  ⟨x.calm, x.nd, x.hN, by rw [← x.hs]; rfl, x.room, x.clen, x.cok, x.free, x.fns, tk_shut, x.exc, x.exm⟩
theorem stores_blk (x : XF xx G con F n sc X) (s : Shared) (H : Hp) (scope : Scope) (cl : List (Str × Addr)) (C : Addr) (fp : List Addr) : Stores (X.blk s H scope (compEnvC scope cl C X.env) fp) (stB scope) := by
  intro y h
  have key : ∀ k, k ≠ .free → scope.names.lookup y = some k → (relS scope X.env.scope).names.lookup y = some k := fun k hk e => lookup_relS_keep hk e
  unfold stB at h
  split at h
  · rename_i e
    exact ⟨.inl (key _ (by decide) e), .inr (key _ (by decide) e)⟩
  · rename_i e
    exact ⟨.inr (key _ (by decide) e), .inl (by show (scope.names.lookup y == some .cell) = true; rw [e]; rfl)⟩
  · cases h
theorem evEs_len : ∀ (es : Cs) (ρ : Env) (s s' : S) (ds : List D), evEs con F es ρ s = .ok ds s' → ds.length = es.len
  | .nil, ρ, s, s', ds, h => by
    rw [evEs] at h
    cases h
    rfl
  | .cons e es, ρ, s, s', ds, h => by
    rw [evEs] at h
    obtain ⟨x, s1, _, h⟩ := bind_ok h
    obtain ⟨xs, s2, h2, h⟩ := bind_ok h
    cases h
    rw [List.length_cons, evEs_len es _ _ _ _ h2]
    rfl
theorem folded_no {e : Expr} {env : PySem.Env} (h : notSet e = true) : ∀ x, foldedSetIterable e env x = pure x := fun x => by
  unfold foldedSetIterable
  cases e <;> first | rfl | cases h
mutual
theorem sndE : ∀ (c : C) (sc : Scope) (X : Cx) (e : Expr) (xx : XX), XF xx G con F n sc X → okE G c sc e = true → Snd xx X e (evE con F c)
  | .c d, sc, X, e, xx, x, h => by
    match e, h with
    | .Constant k j pos, h =>
      simp only [okE] at h
      exact snd_const h
  | .g k, sc, X, e, xx, x, h => by
    match e, h with
    | .Name y pos, h =>
      simp only [okE] at h
      simp only [Bool.and_eq_true, decide_eq_true_eq] at h
      have hk : k < con.length := by
        rw [x.clen]
        exact (List.getElem?_eq_some_iff.mp h.1.1).1
      obtain ⟨v, u, h1, h2, h3⟩ := x.cok k y _ h.1.1 (List.getElem?_eq_getElem hk)
      exact snd_glob (gl_of x.hs h.1.2) h1 h2 (dbg_of h.2) h3 (List.getElem?_eq_getElem hk)
  | .v i, sc, X, e, xx, x, h => by
    match e, h with
    | .Name y pos, h =>
      simp only [okE] at h
      simp only [Bool.and_eq_true, decide_eq_true_eq] at h
      exact snd_var (by rw [x.hN]; exact h.1.1.1) (by rw [x.hs]; exact vis_of h.1.1.2) (dbg_of h.1.2) (by simpa using h.2)
  | .ty m, sc, X, e, xx, x, h => by
    match e, h with
    | .Name y pos, h =>
      simp only [okE] at h
      simp only [Bool.and_eq_true, decide_eq_true_eq] at h
      obtain ⟨⟨⟨rfl, h2⟩, h3⟩, h4⟩ := h
      obtain ⟨b1, b2, b3⟩ := boot_ty h2
      exact snd_ty (gl_of x.hs h4) (x.free _ (by simpa using h3)) b1 b2 b3
  | .tup es, sc, X, e, xx, x, h => by
    match e, h with
    | .Tuple xs k pos, h =>
      simp only [okE] at h
      exact snd_tup (sndEs es sc X _ _ x h).1
  | .lst es, sc, X, e, xx, x, h => by
    match e, h with
    | .List xs pos, h =>
      simp only [okE] at h
      exact snd_lst (sndEs es sc X _ _ x h).1
  | .dnew, sc, X, e, xx, x, h => by
    match e, h with
    | .Dict [] [] pos, h => exact snd_dnew
  | .bin o a b, sc, X, e, xx, x, h => by
    match e, h with
    | .BinOp l o' r pos, h =>
      simp only [okE] at h
      simp only [Bool.and_eq_true, decide_eq_true_eq] at h
      obtain ⟨⟨rfl, h1⟩, h2⟩ := h
      exact snd_bin (sndE a sc X _ _ x h1) (sndE b sc X _ _ x h2)
  | .cmp o a b, sc, X, e, xx, x, h => by
    match e, h with
    | .Compare l [o'] [r] pos, h =>
      simp only [okE, Bool.and_eq_true, decide_eq_true_eq] at h
      obtain ⟨⟨⟨rfl, h0⟩, h1⟩, h2⟩ := h
      exact snd_cmp x.room.units (sndE a sc X _ _ x h1) (sndE b sc X _ _ x h2) h0
  | .chn o p a b c, sc, X, e, xx, x, h => by
    match e, h with
    | .Compare l [o', p'] [r, z] pos, h =>
      simp only [okE, Bool.and_eq_true, decide_eq_true_eq] at h
      obtain ⟨⟨⟨⟨⟨rfl, rfl⟩, h0⟩, h1⟩, h2⟩, h3⟩ := h
      exact snd_chn x.room.units (sndE a sc X _ _ x h1) (sndE b sc X _ _ x h2) (sndE c sc X _ _ x h3) h0
  | .one a, sc, X, e, xx, x, h => by
    match e, h with
    | .BoolOp _ [y] _, h =>
      simp only [okE] at h
      exact snd_one (sndE a sc X _ _ x h)
  | .and_ a b, sc, X, e, xx, x, h => by
    match e, h with
    | .BoolOp .And (y :: z :: r) pos, h =>
      simp only [okE, Bool.and_eq_true] at h
      exact snd_and (sndE a sc X _ _ x h.1) (sndE b sc X _ _ x h.2)
  | .or_ a b, sc, X, e, xx, x, h => by
    match e, h with
    | .BoolOp .Or (y :: z :: r) pos, h =>
      simp only [okE, Bool.and_eq_true] at h
      exact snd_or (sndE a sc X _ _ x h.1) (sndE b sc X _ _ x h.2)
  | .not_ a, sc, X, e, xx, x, h => by
    match e, h with
    | .UnaryOp .Not y pos, h =>
      simp only [okE] at h
      exact snd_not (sndE a sc X _ _ x h)
  | .neg a, sc, X, e, xx, x, h => by
    match e, h with
    | .UnaryOp .USub y pos, h =>
      simp only [okE] at h
      exact snd_neg (sndE a sc X _ _ x h)
  | .ite t a b, sc, X, e, xx, x, h => by
    match e, h with
    | .IfExp c y z pos, h =>
      simp only [okE, Bool.and_eq_true] at h
      exact snd_ite (sndE t sc X _ _ x h.1.1) (sndE a sc X _ _ x h.1.2) (sndE b sc X _ _ x h.2)
  | .call f es, sc, X, e, xx, x, h => by
    match e, h with
    | .Call (.Name y p) args [] pos, h =>
      simp only [okE, Bool.and_eq_true] at h
      obtain ⟨⟨⟨⟨h1, h2⟩, h3⟩, h4⟩, h5⟩ := h
      cases hf : G.fns[f]? with
      | none => rw [hf] at h1; cases h1
      | some yn =>
        obtain ⟨z, np⟩ := yn
        rw [hf] at h1
        simp only [Bool.and_eq_true, decide_eq_true_eq] at h1
        obtain ⟨rfl, hl⟩ := h1
        obtain ⟨a, fd, ps, g1, g2, g3, g4⟩ := x.fns f y np hf
        obtain ⟨hp, hn, hlen⟩ := sndEs es sc X _ _ x h5
        refine snd_call x.tk g4 x.room (gl_of x.hs h2) g1 g2 g3 hp hn (dbg_of h3) (fun ρ s ds s' e => ?_) (by intro z; rw [z] at h4; cases h4)
        rw [evEs_len es ρ s s' ds e, ← hlen, hl]
  | .bi f es, sc, X, e, xx, x, h => by
    match e, h with
    | .Call (.Name y p) args [] pos, h =>
      simp only [okE, Bool.and_eq_true, decide_eq_true_eq] at h
      obtain ⟨⟨⟨⟨rfl, h2⟩, h3⟩, h4⟩, h5⟩ := h
      obtain ⟨hp, hn, hlen⟩ := sndEs es sc X _ _ x h5
      cases args with
      | nil => cases h4
      | cons a as => exact snd_bi x.calm (gl_of x.hs h3) (x.free _ (by simpa using h2)) hp hn
  | .mt m o es, sc, X, e, xx, x, h => by
    match e, h with
    | .Call (.Attribute y name apos) args [] cpos, h =>
      simp only [okE, Bool.and_eq_true, decide_eq_true_eq] at h
      obtain ⟨⟨⟨⟨⟨rfl, h2⟩, h3⟩, h4⟩, h5⟩, h6⟩ := h
      obtain ⟨hp, hn, hlen⟩ := sndEs es sc X _ _ x h6
      cases args with
      | nil =>
        cases es with
        | nil => exact snd_mt0 (sndE o sc X _ _ x h5) h2 h3
        | cons e es => cases hlen
      | cons a as => exact snd_mt1 (sndE o sc X _ _ x h5) hp hn h2 h3 h4
  | .ix a b, sc, X, e, xx, x, h => by
    match e, h with
    | .Subscript y z pos, h =>
      simp only [okE, Bool.and_eq_true] at h
      exact snd_ix (sndE a sc X _ _ x h.1.2) (sndE b sc X _ _ x h.2) h.1.1
  | .sl a lo hi, sc, X, e, xx, x, h => by
    match e, h with
    | .Subscript y (.Slice l u none p2) pos, h =>
      simp only [okE, Bool.and_eq_true] at h
      exact snd_sl (sndE a sc X _ _ x h.1.1) (sndCo lo sc X _ _ x h.1.2) (sndCo hi sc X _ _ x h.2)
  | .rev a, sc, X, e, xx, x, h => by
    match e, h with
    | .Subscript y (.Slice none none (some (.UnaryOp .USub (.Constant (.int 1) _ _) _)) _) pos, h =>
      simp only [okE] at h
      exact snd_rev (sndE a sc X _ _ x h)
  | .comp e1 tg it t own, sc, X, e, xx, x, h => by
    match e, h with
    | .ListComp elt [⟨tgt, iter, ifs, k⟩] scope pos, h =>
      simp only [okE, Bool.and_eq_true, decide_eq_true_eq] at h
      obtain ⟨⟨⟨⟨⟨⟨⟨⟨rfl, h1⟩, h2⟩, h3⟩, h4⟩, h5⟩, h6⟩, h7⟩, h8⟩ := h
      refine snd_plain ((pe_lc (own := ownN G.N own) (g := gT X.K tg) (tt := rdT xx.shut X.K (evCt con F t)) (te := rdE xx.shut X.K (evE con F e1)) x.calm x.nd (sndIt it sc X tgt iter _ x h1) (blkOk_by (by rw [x.hN, x.hs]; exact h5)) (fun s H C cl fp => pg_tg (X := X.blk s H scope (compEnvC scope cl C X.env) fp) x.calm x.nd (stores_blk x s H scope cl C fp) (by show tgOk X.N _ _ _ = true; rw [x.hN]; exact h2))
        (fun s H C cl fp => sndCt t _ _ ifs _ (x.blk s H scope cl C fp) h3) (fun s H C cl fp => (sndE e1 _ _ elt _ (x.blk s H scope cl C fp) h4).pe) (folded_no h8)).imp fun σ H Q hr => ?_) (fun _ => rfl) rfl
      rw [h6]
      exact comp_rd (fun i hi => by simpa using List.all_eq_true.mp h7 i hi) hr
theorem sndEs : ∀ (es : Cs) (sc : Scope) (X : Cx) (xs : List Expr) (xx : XX), XF xx G con F n sc X → okEs G es sc xs = true → PA X xs (rdA xx X.K (evEs con F es)) ∧ xs.all notStar = true ∧ xs.length = es.len
  | .nil, sc, X, xs, xx, x, h => by
    cases xs with
    | nil => exact ⟨sna_nil, rfl, rfl⟩
    | cons y ys => cases h
  | .cons e es, sc, X, xs, xx, x, h => by
    cases xs with
    | nil => cases h
    | cons y ys =>
      simp only [okEs, Bool.and_eq_true] at h
      obtain ⟨h1, h2, h3⟩ := sndEs es sc X ys _ x h.2
      refine ⟨sna_cons (sndE e sc X y _ x h.1.2) h1 h.1.1, ?_, ?_⟩
      · rw [List.all_cons, h.1.1, h2]
        rfl
      · rw [List.length_cons, h3]
        rfl
theorem sndCo : ∀ (c : Co) (sc : Scope) (X : Cx) (e : Option Expr) (xx : XX), XF xx G con F n sc X → okCo G c sc e = true → PO X e (rdO xx X.K (evCo con F c))
  | .none, sc, X, e, xx, x, h => by
    cases e with
    | none => exact sno_none
    | some y => cases h
  | .some c, sc, X, e, xx, x, h => by
    cases e with
    | none => cases h
    | some y =>
      simp only [okCo] at h
      exact sno_some (sndE c sc X y _ x h)
theorem sndCt : ∀ (c : Co) (sc : Scope) (X : Cx) (e : List Expr) (xx : XX), XF xx G con F n sc X → okCt G c sc e = true → PTs X e (rdT xx X.K (evCt con F c))
  | .none, sc, X, e, xx, x, h => by
    cases e with
    | nil => exact pts_nil.imp fun σ H Q ⟨q, A, ρ, s, st, post⟩ => post _ Keep.refl st.dc
    | cons y ys => cases h
  | .some c, sc, X, e, xx, x, h => by
    match e, h with
    | [y], h =>
      simp only [okCt] at h
      exact pts_one (sndE c sc X y _ x h).pt
theorem sndIt : ∀ (i : It) (sc : Scope) (X : Cx) (tg e : Expr) (xx : XX), XF xx G con F n sc X → okIt G i sc tg e = true → PI X tg e (rdI xx X.K (evIt con F i))
  | .rng a, sc, X, tg, e, xx, x, h => by
    match e, h with
    | .Call (.Name y _) [z] [] _, h =>
      simp only [okIt, Bool.and_eq_true, decide_eq_true_eq] at h
      obtain ⟨⟨⟨⟨rfl, h2⟩, h3⟩, h4⟩, h5⟩ := h
      exact sni_rng (gl_of x.hs h3) (x.free _ (by simpa using h2)) (sndE a sc X z _ x h5) h4
  | .rng2 a b, sc, X, tg, e, xx, x, h => by
    match e, h with
    | .Call (.Name y _) [z, w] [] _, h =>
      simp only [okIt, Bool.and_eq_true, decide_eq_true_eq] at h
      obtain ⟨⟨⟨⟨⟨⟨rfl, h2⟩, h3⟩, h4⟩, h5⟩, h6⟩, h7⟩ := h
      exact sni_rng2 (gl_of x.hs h3) (x.free _ (by simpa using h2)) (sndE a sc X z _ x h6) (sndE b sc X w _ x h7) h4 h5
  | .seq a, sc, X, tg, e, xx, x, h => by
    simp only [okIt] at h
    exact sni_seq (sndE a sc X e _ x h)
  | .enum a, sc, X, tg, e, xx, x, h => by
    match e, h with
    | .Call (.Name y _) [z] [] _, h =>
      simp only [okIt, Bool.and_eq_true, decide_eq_true_eq] at h
      obtain ⟨⟨⟨⟨⟨rfl, h0⟩, h2⟩, h3⟩, h4⟩, h5⟩ := h
      cases tg <;> first | cases h0 | skip
      exact sni_enum (gl_of x.hs h3) (x.free _ (by simpa using h2)) (sndE a sc X z _ x h5) h4
end
end
end Ev

/-! Ev10: statements. -/
namespace Ev
open PySem L2 PyProof.Rows

def Aof (A : Addr → Prop) (ow : Nat → Option Addr) : Addr → Prop := fun a => A a ∨ ∃ i, ow i = some a
/-- all is kept but the dice and what B tells -/
def KeepB (q : Addr) (B : Addr → Prop) (H H' : Hp) : Prop := ∀ a o, a ≠ q → ¬ B a → H a = some o → H' a = some o
/-- the state of a body. H0: the heap at its base, B: what may be changed of it; ow: the lists of its own slots -/
structure Sim (K : PySem.W.Frag) (H0 : Hp) (B : Addr → Prop) (q : Addr) (A : Addr → Prop) (own : List Nat) (ow : Nat → Option Addr) (σ : L2.St) (ρ : Env) (H : Hp) (s : S) : Prop where
  aq : A q
  tr : ∀ a, A a → ∃ o, H0 a = some o
  nB : ∀ a, B a → ¬ A a
  keep : KeepB q B H0 H
  dc : Dc q H s
  ln : ρ.length ≤ σ.length
  onew : ∀ i a, ow i = some a → B a ∨ H0 a = none
  oinj : ∀ i j a, ow i = some a → ow j = some a → i = j
  otr : ∀ i a, ow i = some a → i ∈ own ∧ ∃ vs, H a = some (.lst vs)
  osl : ∀ i, i ∈ own → ∀ d, getV ρ i = some d → ∃ a vs xs, ow i = some a ∧ σ[i]? = some (some (.ref a)) ∧ d = .lst xs ∧ H a = some (.lst vs) ∧ Reps K q (Aof A ow) H vs xs
  fsl : ∀ i, i ∉ own → ∀ d, getV ρ i = some d → ∃ v, σ[i]? = some (some v) ∧ Rep K q (Aof A ow) H v d
section
variable {K : PySem.W.Frag} {H0 : Hp} {B : Addr → Prop} {q : Addr} {A : Addr → Prop} {own : List Nat} {ow : Nat → Option Addr} {σ : L2.St} {ρ : Env} {H H' : Hp} {s s' : S}
theorem Sim.onA (x : Sim K H0 B q A own ow σ ρ H s) {i : Nat} {a : Addr} (h : ow i = some a) : ¬ A a := fun z => by
  rcases x.onew i a h with b | n
  · exact x.nB a b z
  · obtain ⟨o, e⟩ := x.tr a z
    rw [n] at e
    cases e
theorem Sim.oq (x : Sim K H0 B q A own ow σ ρ H s) {i : Nat} {a : Addr} (h : ow i = some a) : a ≠ q := fun z => x.onA h (z ▸ x.aq)
theorem Sim.trH (x : Sim K H0 B q A own ow σ ρ H s) (a : Addr) (h : A a) : ∃ o, H a = some o := by
  by_cases e : a = q
  · subst e
    exact ⟨_, x.dc⟩
  · obtain ⟨o, ho⟩ := x.tr a h
    exact ⟨o, x.keep a o e (fun z => x.nB a z h) ho⟩
/-- for expressions that do not look at the own lists -/
theorem Sim.st (x : Sim K H0 B q A own ow σ ρ H s) : St0 K q (Aof A ow) σ (mask own ρ) H s := by
  refine ⟨.inl x.aq, fun a h => ?_, x.dc, fun i d e => ?_, by unfold mask; rw [wipeE_len]; exact x.ln⟩
  · rcases h with h | ⟨i, h⟩
    · exact x.trH a h
    · obtain ⟨_, vs, e⟩ := x.otr i a h
      exact ⟨_, e⟩
  · obtain ⟨h1, h2⟩ := getV_wipe e
    exact x.fsl i h1 d h2
/-- for expressions that do -/
theorem Sim.stF (x : Sim K H0 B q A own ow σ ρ H s) : St0 K q A σ ρ H s := by
  refine ⟨x.aq, x.trH, x.dc, fun i d e => ?_, x.ln⟩
  by_cases hi : i ∈ own
  · obtain ⟨a, vs, xs, h1, h2, rfl, h4, h5⟩ := x.osl i hi d e
    refine ⟨_, h2, ?_⟩
    rw [rep_lst]
    exact ⟨a, vs, rfl, x.onA h1, h4, Reps.anti (fun a z => .inl z) xs vs h5⟩
  · obtain ⟨v, h1, h2⟩ := x.fsl i hi d e
    exact ⟨v, h1, Rep.anti (fun a z => .inl z) d v h2⟩
theorem Sim.mono (x : Sim K H0 B q A own ow σ ρ H s) (k : Keep q H H') : Mono (Aof A ow) H H' := k.mono (.inl x.aq) x.dc
theorem Sim.go (x : Sim K H0 B q A own ow σ ρ H s) (k : Keep q H H') (d : Dc q H' s') : Sim K H0 B q A own ow σ ρ H' s' := by
  refine ⟨x.aq, x.tr, x.nB, fun a o n1 n2 e => k a o n1 (x.keep a o n1 n2 e), d, x.ln, x.onew, x.oinj, fun i a e => ?_, fun i hi dd e => ?_, fun i hi dd e => ?_⟩
  · obtain ⟨h1, vs, h2⟩ := x.otr i a e
    exact ⟨h1, vs, k a _ (x.oq e) h2⟩
  · obtain ⟨a, vs, xs, h1, h2, h3, h4, h5⟩ := x.osl i hi dd e
    exact ⟨a, vs, xs, h1, h2, h3, k a _ (x.oq h1) h4, Reps.mono (x.mono k) xs vs h5⟩
  · obtain ⟨v, h1, h2⟩ := x.fsl i hi dd e
    exact ⟨v, h1, Rep.mono (x.mono k) dd v h2⟩
/-- a slot is stored -/
theorem Sim.set (x : Sim K H0 B q A own ow σ ρ H s) {i : Nat} {v : V} {d : D} (hi : i ∉ own) (r : Rep K q (Aof A ow) H v d) : Sim K H0 B q A own ow (σ.set i (some v)) (ρ.set i (some d)) H s := by
  refine ⟨x.aq, x.tr, x.nB, x.keep, x.dc, by simpa using x.ln, x.onew, x.oinj, x.otr, fun j hj dd e => ?_, fun j hj dd e => ?_⟩
  · rcases getV_set e with ⟨rfl, _, _⟩ | ⟨hn, e⟩
    · exact (hi hj).elim
    · obtain ⟨a, vs, xs, h1, h2, h3⟩ := x.osl j hj dd e
      exact ⟨a, vs, xs, h1, by rw [List.getElem?_set_ne hn]; exact h2, h3⟩
  · rcases getV_set e with ⟨rfl, hl, e⟩ | ⟨hn, e⟩
    · cases e
      exact ⟨v, List.getElem?_set_self (Nat.lt_of_lt_of_le hl x.ln), r⟩
    · obtain ⟨w, h1, h2⟩ := x.fsl j hj dd e
      exact ⟨w, by rw [List.getElem?_set_ne hn]; exact h1, h2⟩
theorem Sim.setAll : ∀ {is : List Nat} {ds : List D} {vs : List V} {σ : L2.St} {ρ ρ' : Env}, Sim K H0 B q A own ow σ ρ H s → (∀ i ∈ is, i ∉ own) → Reps K q (Aof A ow) H vs ds → Ev.setAll is ds ρ = some ρ' →
    ∀ {Q : L2.St → Hp → Prop}, (∀ σ', Sim K H0 B q A own ow σ' ρ' H s → Q σ' H) → gAll is vs σ H Q
  | [], [], vs, σ, ρ, ρ', x, hi, r, e, Q, k => by
    cases e
    exact ⟨reps0 r, k σ x⟩
  | i :: is, d :: ds, [], σ, ρ, ρ', x, hi, r, e, Q, k => by unfold Reps at r; exact r.elim
  | i :: is, d :: ds, v :: vs, σ, ρ, ρ', x, hi, r, e, Q, k => by
    unfold Reps at r
    exact ⟨v, vs, rfl, Sim.setAll (is := is) (x.set (hi i List.mem_cons_self) r.1) (fun j hj => hi j (List.mem_cons_of_mem _ hj)) r.2 e k⟩
  | [], _ :: _, _, _, _, _, _, _, _, e, _, _ => by cases e
  | _ :: _, [], _, _, _, _, _, _, _, e, _, _ => by cases e
def owSet (ow : Nat → Option Addr) (i : Nat) (p : Addr) : Nat → Option Addr := fun j => if j = i then some p else ow j
theorem owSet_grow {i : Nat} {p : Addr} (hp : H p = none) : ∀ a, Aof A (owSet ow i p) a → Aof A ow a ∨ H a = none := fun a h => by
  rcases h with h | ⟨j, h⟩
  · exact .inl (.inl h)
  · unfold owSet at h
    split at h
    · cases h
      exact .inr hp
    · exact .inl (.inr ⟨j, h⟩)
/-- a new list of an own slot -/
theorem Sim.setOwn (x : Sim K H0 B q A own ow σ ρ H s) {i : Nat} {p : Addr} {vs : List V} {xs : List D} (hi : i ∈ own) (hp : H p = none) (r : Reps K q (Aof A ow) H vs xs) :
    Sim K H0 B q A own (owSet ow i p) (σ.set i (some (.ref p))) (ρ.set i (some (.lst xs))) (upd H p (.lst vs)) s := by
  have ext : ∀ a o, H a = some o → upd H p (.lst vs) a = some o := fun a o e => by
    rw [upd_ne (ne_of_none e hp)]
    exact e
  have m : ∀ A', Mono A' H (upd H p (.lst vs)) := fun A' => ⟨fun a o _ e => ext a o e, fun a xs e => ext a _ e, fun a o u e => ext a _ e⟩
  have g := owSet_grow (A := A) (ow := ow) (i := i) hp
  have np : ∀ j a, ow j = some a → a ≠ p := fun j a e z => by
    obtain ⟨_, ws, h⟩ := x.otr j a e
    rw [z, hp] at h
    cases h
  refine ⟨x.aq, x.tr, x.nB, fun a o n1 n2 e => ext a o (x.keep a o n1 n2 e), ext _ _ x.dc, by simpa using x.ln, fun j a e => ?_, fun j k a e1 e2 => ?_, fun j a e => ?_, fun j hj dd e => ?_, fun j hj dd e => ?_⟩
  · unfold owSet at e
    split at e
    · cases e
      by_cases hB : B p
      · exact .inl hB
      · right
        cases h0 : H0 p with
        | none => rfl
        | some o =>
          by_cases hq : p = q
          · have := x.dc
            unfold Dc at this
            rw [← hq, hp] at this
            cases this
          · rw [x.keep p o hq hB h0] at hp
            cases hp
    · exact x.onew j a e
  · unfold owSet at e1 e2
    split at e1
    · cases e1
      split at e2
      · rename_i h1 h2; rw [h1, h2]
      · exact (np _ _ e2 rfl).elim
    · split at e2
      · cases e2
        exact (np _ _ e1 rfl).elim
      · exact x.oinj j k a e1 e2
  · unfold owSet at e
    split at e
    · cases e
      rename_i h
      subst h
      exact ⟨hi, vs, upd_same⟩
    · obtain ⟨h1, ws, h2⟩ := x.otr j a e
      exact ⟨h1, ws, ext _ _ h2⟩
  · rcases getV_set e with ⟨rfl, hl, e⟩ | ⟨hn, e⟩
    · cases e
      refine ⟨p, vs, xs, by unfold owSet; rw [if_pos rfl], List.getElem?_set_self (Nat.lt_of_lt_of_le hl x.ln), rfl, upd_same, Reps.mono (m _) xs vs (Reps.grow g xs vs r)⟩
    · obtain ⟨a, ws, ys, h1, h2, h3, h4, h5⟩ := x.osl j hj dd e
      refine ⟨a, ws, ys, by unfold owSet; rw [if_neg (Ne.symm hn)]; exact h1, by rw [List.getElem?_set_ne hn]; exact h2, h3, ext _ _ h4, Reps.mono (m _) ys ws (Reps.grow g ys ws h5)⟩
  · rcases getV_set e with ⟨rfl, hl, e⟩ | ⟨hn, e⟩
    · exact (hj hi).elim
    · obtain ⟨w, h1, h2⟩ := x.fsl j hj dd e
      exact ⟨w, by rw [List.getElem?_set_ne hn]; exact h1, Rep.mono (m _) dd w (Rep.grow g dd w h2)⟩
/-- an own list grows -/
theorem Sim.app (x : Sim K H0 B q A own ow σ ρ H s) {i : Nat} {v : V} {d : D} {xs : List D} (hi : i ∈ own) (hg : getV ρ i = some (.lst xs)) (r : Rep K q (Aof A ow) H v d) :
    ∃ a vs, σ[i]? = some (some (.ref a)) ∧ H a = some (.lst vs) ∧ vs.length = xs.length ∧ Sim K H0 B q A own ow σ (ρ.set i (some (.lst (xs ++ [d])))) (upd H a (.lst (vs ++ [v]))) s := by
  obtain ⟨a, vs, ys, h1, h2, h3, h4, h5⟩ := x.osl i hi _ hg
  cases h3
  refine ⟨a, vs, h2, h4, h5.length, ?_⟩
  have m : Mono (Aof A ow) H (upd H a (.lst (vs ++ [v]))) := ⟨fun b o n e => by rw [upd_ne (fun z => n (.inr ⟨i, by rw [z]; exact h1⟩))]; exact e, fun b zs e => by rw [upd_ne (fun z => by rw [z, h4] at e; cases e)]; exact e,
    fun b o u e => by rw [upd_ne (fun z => by rw [z, h4] at e; cases e)]; exact e⟩
  refine ⟨x.aq, x.tr, x.nB, fun b o n1 n2 e => ?_, ?_, by simpa using x.ln, x.onew, x.oinj, fun j b e => ?_, fun j hj dd e => ?_, fun j hj dd e => ?_⟩
  · have hb : b ≠ a := fun z => by
      rcases x.onew i a h1 with hB | hn
      · exact n2 (z ▸ hB)
      · rw [z, hn] at e
        cases e
    rw [upd_ne hb]
    exact x.keep b o n1 n2 e
  · have := x.dc
    unfold Dc at this ⊢
    rw [upd_ne (Ne.symm (x.oq h1))]
    exact this
  · obtain ⟨h6, ws, h7⟩ := x.otr j b e
    by_cases hb : b = a
    · subst hb
      exact ⟨h6, _, upd_same⟩
    · exact ⟨h6, ws, by rw [upd_ne hb]; exact h7⟩
  · rcases getV_set e with ⟨rfl, hl, e⟩ | ⟨hn, e⟩
    · cases e
      exact ⟨a, _, _, h1, h2, rfl, upd_same, Reps.append (Reps.mono m xs vs h5) (Reps.cons (Rep.mono m d v r) Reps.nil)⟩
    · obtain ⟨b, ws, ys, g1, g2, g3, g4, g5⟩ := x.osl j hj dd e
      have hb : b ≠ a := fun z => hn (x.oinj i j a h1 (z ▸ g1))
      exact ⟨b, ws, ys, g1, g2, g3, by rw [upd_ne hb]; exact g4, Reps.mono m ys ws g5⟩
  · rcases getV_set e with ⟨rfl, hl, e⟩ | ⟨hn, e⟩
    · exact (hj hi).elim
    · obtain ⟨w, g1, g2⟩ := x.fsl j hj dd e
      exact ⟨w, g1, Rep.mono m dd w g2⟩
/-- a new base: here and now -/
theorem Sim.rebase (x : Sim K H0 B q A own ow σ ρ H s) : Sim K H (fun a => ∃ i, ow i = some a) q A own ow σ ρ H s :=
  ⟨x.aq, x.trH, fun a ⟨i, h⟩ => x.onA h, fun _ _ _ _ h => h, x.dc, x.ln, fun i a h => .inl ⟨i, h⟩, x.oinj, x.otr, x.osl, x.fsl⟩
theorem Sim.keepBack (x : Sim K H0 B q A own ow σ ρ H s) {H2 : Hp} (k : KeepB q (fun a => ∃ i, ow i = some a) H H2) : KeepB q B H0 H2 := fun a o n1 n2 e =>
  k a o n1 (fun ⟨i, h⟩ => by
    rcases x.onew i a h with b | n
    · exact n2 b
    · rw [n] at e
      cases e) (x.keep a o n1 n2 e)
/-- back to the old base -/
theorem Sim.back (x : Sim K H0 B q A own ow σ ρ H s) {ow2 : Nat → Option Addr} {σ2 : L2.St} {ρ2 : Env} {H2 : Hp} {s2 : S} (y : Sim K H (fun a => ∃ i, ow i = some a) q A own ow2 σ2 ρ2 H2 s2) : Sim K H0 B q A own ow2 σ2 ρ2 H2 s2 := by
  refine ⟨x.aq, x.tr, x.nB, x.keepBack y.keep, y.dc, y.ln, fun i a h => ?_, y.oinj, y.otr, y.osl, y.fsl⟩
  rcases y.onew i a h with ⟨j, b⟩ | n
  · exact x.onew j a b
  · by_cases hB : B a
    · exact .inl hB
    · right
      cases h0 : H0 a with
      | none => rfl
      | some o =>
        rw [x.keep a o (y.oq h) hB h0] at n
        cases n
end
/-- what is wanted behind a statement -/
def PXs (xx : XX) (K : PySem.W.Frag) (H0 : Hp) (B : Addr → Prop) (q : Addr) (A : Addr → Prop) (x : Ex) (s' : S) : Prop := ∀ cls d H', KeepB q B H0 H' → Dc q H' s' → XRep xx.T K q A H' cls d x → xx.w cls d H'
def PostS (xx : XX) (K : PySem.W.Frag) (H0 : Hp) (B : Addr → Prop) (q : Addr) (A : Addr → Prop) (own : List Nat) (E : Ends) (o : Out Fl) : Prop := match o with
  | .ok (.nx ρ') s' => ∀ ow σ' H', Sim K H0 B q A own ow σ' ρ' H' s' → E.nx σ' H'
  | .ok (.rt d) s' => ∀ v H', KeepB q B H0 H' → Dc q H' s' → Rep K q A H' v d → E.rt v H'
  | .ok (.bk ρ') s' => ∀ ow σ' H', Sim K H0 B q A own ow σ' ρ' H' s' → E.bk σ' H'
  | .ok (.ct ρ') s' => ∀ ow σ' H', Sim K H0 B q A own ow σ' ρ' H' s' → E.ct σ' H'
  | .exc x s' => PXs xx K H0 B q A x s'
  | .no => False
theorem Sim.px {xx : XX} {K : PySem.W.Frag} {H0 : Hp} {B : Addr → Prop} {q : Addr} {A A' : Addr → Prop} {own : List Nat} {ow : Nat → Option Addr} {σ : L2.St} {ρ : Env} {H : Hp} {s s' : S} {x : Ex} (sim : Sim K H0 B q A own ow σ ρ H s) (h : PXs xx K H0 B q A x s') (m : ∀ a, A a → A' a) : PXc xx K q A' H x s' :=
  fun cls d H' k d' r => h cls d H' (fun a o n1 n2 e => k a o n1 (sim.keep a o n1 n2 e)) d' (XRep.anti m r)
def rdS (xx : XX) (K : PySem.W.Frag) (own : List Nat) (m : Env → M Fl) : TS := fun E σ H => ∃ H0 B q A ow ρ s, Sim K H0 B q A own ow σ ρ H s ∧ PostS xx K H0 B q A own E (m ρ s)
end Ev
section
open PySem L2
theorem L2.PS.imp {X : Cx} {e : Stmt} {t t' : TS} (h : PS X e t) (i : ∀ E σ H, t' E σ H → t E σ H) : PS X e t' := ⟨fun pins s σ H D I w => h.run pins s σ H D I (i D σ H w)⟩
theorem L2.PSs.imp {X : Cx} {e : List Stmt} {t t' : TS} (h : PSs X e t) (i : ∀ E σ H, t' E σ H → t E σ H) : PSs X e t' := ⟨fun pins s σ H D I w => h.run pins s σ H D I (i D σ H w)⟩
end
namespace Ev
open PySem L2 PyProof.Rows
section
variable {xx : XX} {X : Cx} {own : List Nat}
/-! ### blocks -/
theorem sns_nil : PSs X [] (rdS xx X.K own fun ρ => M.ret (.nx ρ)) := pss_nil.imp fun E σ H ⟨H0, B, q, A, ow, ρ, s, sim, post⟩ => post _ _ _ sim
theorem sns_cons {st : Stmt} {r : List Stmt} {m mr : Env → M Fl} (h : PS X st (rdS xx X.K own m)) (hr : PSs X r (rdS xx X.K own mr)) :
    PSs X (st :: r) (rdS xx X.K own fun ρ => M.bind (m ρ) fun f => match f with
    | .nx ρ' => mr ρ'
    | f => M.ret f) := by
  refine (pss_cons h hr).imp fun E σ H ⟨H0, B, q, A, ow, ρ, s, sim, post⟩ => ⟨H0, B, q, A, ow, ρ, s, sim, ?_⟩
  simp only [M.bind] at post
  cases e : m ρ s with
  | ok f s1 =>
    rw [e] at post
    cases f with
    | nx ρ' => exact fun ow' σ' H' sim' => ⟨H0, B, q, A, ow', ρ', s1, sim', post⟩
    | rt d => exact post
    | bk ρ' => exact post
    | ct ρ' => exact post
  | exc _ _ => rw [e] at post; exact post
  | no => rw [e] at post; exact post
theorem sns_pass {pos : Pos} : PS X (.Pass pos) (rdS xx X.K own fun ρ => M.ret (.nx ρ)) := ps_pass.imp fun E σ H ⟨H0, B, q, A, ow, ρ, s, sim, post⟩ => post _ _ _ sim
theorem sns_brk {pos : Pos} : PS X (.Break pos) (rdS xx X.K own fun ρ => M.ret (.bk ρ)) := ps_break.imp fun E σ H ⟨H0, B, q, A, ow, ρ, s, sim, post⟩ => post _ _ _ sim
theorem sns_cnt {pos : Pos} : PS X (.Continue pos) (rdS xx X.K own fun ρ => M.ret (.ct ρ)) := ps_continue.imp fun E σ H ⟨H0, B, q, A, ow, ρ, s, sim, post⟩ => post _ _ _ sim
theorem sns_never {st : Stmt} : PS X st (rdS xx X.K own fun _ => M.no) := ps_never.imp fun E σ H ⟨H0, B, q, A, ow, ρ, s, sim, post⟩ => post
/-! ### return, expressions, if -/
theorem sns_ret {e : Expr} {m : Env → M D} {pos : Pos} (h : Snd xx X e m) : PS X (.Return (some e) pos) (rdS xx X.K own fun ρ => M.bind (m ρ) fun d => M.ret (.rt d)) := by
  refine (ps_ret h.pe).imp fun E σ H ⟨H0, B, q, A, ow, ρ, s, sim, post⟩ => ⟨q, A, ρ, s, sim.stF, ?_⟩
  simp only [M.bind] at post
  cases e1 : m ρ s with
  | ok d s1 =>
    rw [e1] at post
    exact fun v H' k d' r => post v H' (fun a o n1 n2 e => k a o n1 (sim.keep a o n1 n2 e)) d' r
  | exc _ _ => rw [e1] at post; first | exact sim.px post (fun _ z => z) | exact sim.px post (fun _ z => .inl z)
  | no => rw [e1] at post; exact post
def notComp : Expr → Bool
  | .ListComp _ _ _ _ => false
  | .SetComp _ _ _ _ => false
  | .DictComp _ _ _ _ _ => false
  | _ => true
theorem swaps_no {e : Expr} {t : Option Expr} {l : Nat} {env : PySem.Env} (h : notComp e = true) : swapsWith e t l env = pure false := by
  unfold swapsWith
  cases e <;> first | rfl | cases h
theorem sns_ex {e : Expr} {m : Env → M D} {pos : Pos} (h : Snd xx X e m) (n : notComp e = true) : PS X (.Expr e pos) (rdS xx X.K own fun ρ => M.bind (m ρ) fun _ => M.ret (.nx ρ)) := by
  refine (ps_expr h.pe (swaps_no n)).imp fun E σ H ⟨H0, B, q, A, ow, ρ, s, sim, post⟩ => ⟨q, A, ρ, s, sim.stF, ?_⟩
  simp only [M.bind] at post
  cases e1 : m ρ s with
  | ok d s1 =>
    rw [e1] at post
    exact fun v H' k d' r => post _ _ _ (sim.go k d')
  | exc _ _ => rw [e1] at post; first | exact sim.px post (fun _ z => z) | exact sim.px post (fun _ z => .inl z)
  | no => rw [e1] at post; exact post
theorem sns_if {c : Expr} {a b : List Stmt} {mc : Env → M D} {ma mb : Env → M Fl} {pos : Pos} (hc : Snd xx X c mc) (ha : PSs X a (rdS xx X.K own ma)) (hb : PSs X b (rdS xx X.K own mb)) :
    PS X (.If c a b pos) (rdS xx X.K own fun ρ => M.bind (mc ρ) fun x => M.bind (M.opt (truthD x)) fun k => if k then ma ρ else mb ρ) := by
  refine (ps_if hc.pt ha hb).imp fun E σ H ⟨H0, B, q, A, ow, ρ, s, sim, post⟩ => ⟨q, A, ρ, s, sim.stF, ?_⟩
  dsimp only at post
  rw [← bind_assoc] at post
  show PostX xx X.K q A H (tst mc ρ s) _
  change PostS xx X.K H0 B q A own E (M.bind (tst mc ρ) (fun k => if k then ma ρ else mb ρ) s) at post
  simp only [M.bind] at post
  cases e1 : tst mc ρ s with
  | ok b s1 =>
    rw [e1] at post
    intro H' k d'
    cases b with
    | true => exact ⟨H0, B, q, A, ow, ρ, s1, sim.go k d', post⟩
    | false => exact ⟨H0, B, q, A, ow, ρ, s1, sim.go k d', post⟩
  | exc _ _ => rw [e1] at post; exact sim.px post (fun _ z => z)
  | no => rw [e1] at post; exact post
/-! ### assignments -/
section
variable {con : List D} {F : Nat → List D → M D}
/-- the value of evM, to be stored -/
theorem evM_rd {c : C} {fl : Bool} {σ : L2.St} {H H0 : Hp} {B : Addr → Prop} {q : Addr} {A : Addr → Prop} {ow : Nat → Option Addr} {ρ : Env} {s : S} {f : D → M Fl} {E : Ends} {Q : VK} (sim : Sim X.K H0 B q A own ow σ ρ H s)
    (post : PostS xx X.K H0 B q A own E (M.bind (evM con F own c fl ρ) f s)) (hq : ∀ v d H' s', Sim X.K H0 B q A own ow σ ρ H' s' → Rep X.K q (Aof A ow) H' v d → PostS xx X.K H0 B q A own E (f d s') → Q v H') : rdE xx X.K (evE con F c) σ H Q := by
  unfold evM at post
  cases fl with
  | false =>
    refine ⟨q, _, _, s, sim.st, ?_⟩
    simp only [Bool.false_eq_true, if_false, M.bind] at post
    cases e1 : evE con F c (mask own ρ) s with
    | ok d s1 =>
      rw [e1] at post
      exact fun v H' k d' r => hq v d H' s1 (sim.go k d') r post
    | exc _ _ => rw [e1] at post; first | exact sim.px post (fun _ z => z) | exact sim.px post (fun _ z => .inl z)
    | no => rw [e1] at post; exact post
  | true =>
    refine ⟨q, _, _, s, sim.stF, ?_⟩
    simp only [if_true, M.bind] at post
    cases e1 : evE con F c ρ s with
    | ok d s1 =>
      rw [e1] at post
      simp only at post
      cases hn : noL d with
      | true =>
        rw [hn] at post
        exact fun v H' k d' r => hq v d H' s1 (sim.go k d') (Rep.flat d v hn r) post
      | false =>
        rw [hn] at post
        exact post.elim
    | exc _ _ => rw [e1] at post; first | exact sim.px post (fun _ z => z) | exact sim.px post (fun _ z => .inl z)
    | no => rw [e1] at post; exact post
theorem evMs_rd {c : Cs} {fl : Bool} {σ : L2.St} {H H0 : Hp} {B : Addr → Prop} {q : Addr} {A : Addr → Prop} {ow : Nat → Option Addr} {ρ : Env} {s : S} {f : List D → M Fl} {E : Ends} {Q : List V → Hp → Prop} (sim : Sim X.K H0 B q A own ow σ ρ H s)
    (post : PostS xx X.K H0 B q A own E (M.bind (evMs con F own c fl ρ) f s)) (hq : ∀ v d H' s', Sim X.K H0 B q A own ow σ ρ H' s' → Reps X.K q (Aof A ow) H' v d → PostS xx X.K H0 B q A own E (f d s') → Q v H') : rdA xx X.K (evEs con F c) σ H Q := by
  unfold evMs at post
  cases fl with
  | false =>
    refine ⟨q, _, _, s, sim.st, ?_⟩
    simp only [Bool.false_eq_true, if_false, M.bind] at post
    cases e1 : evEs con F c (mask own ρ) s with
    | ok d s1 =>
      rw [e1] at post
      exact fun v H' k d' r => hq v d H' s1 (sim.go k d') r post
    | exc _ _ => rw [e1] at post; first | exact sim.px post (fun _ z => z) | exact sim.px post (fun _ z => .inl z)
    | no => rw [e1] at post; exact post
  | true =>
    refine ⟨q, _, _, s, sim.stF, ?_⟩
    simp only [if_true, M.bind] at post
    cases e1 : evEs con F c ρ s with
    | ok d s1 =>
      rw [e1] at post
      simp only at post
      cases hn : noLs d with
      | true =>
        rw [hn] at post
        exact fun v H' k d' r => hq v d H' s1 (sim.go k d') (Reps.flat d v hn r) post
      | false =>
        rw [hn] at post
        exact post.elim
    | exc _ _ => rw [e1] at post; first | exact sim.px post (fun _ z => z) | exact sim.px post (fun _ z => .inl z)
    | no => rw [e1] at post; exact post
theorem set_rd {c : C} {fl : Bool} {i : Nat} (hi : i ∉ own) {E : Ends} {σ : L2.St} {H : Hp} (h : rdS xx X.K own (fun ρ => M.bind (evM con F own c fl ρ) fun d => M.ret (.nx (ρ.set i (some d)))) E σ H) : tAsg (rdE xx X.K (evE con F c)) (gName i) E σ H := by
  obtain ⟨H0, B, q, A, ow, ρ, s, sim, post⟩ := h
  exact evM_rd sim post fun v d H' s' sim' r p => p _ _ _ (sim'.set hi r)
theorem unp_rd {c : C} {fl : Bool} {is : List Nat} (hi : ∀ i ∈ is, i ∉ own) {E : Ends} {σ : L2.St} {H : Hp} (h : rdS xx X.K own (fun ρ => M.bind (evM con F own c fl ρ) fun d => match d with
    | .tup ds => M.bind (M.opt (setAll is ds ρ)) fun ρ' => M.ret (.nx ρ')
    | _ => M.no) E σ H) : tAsg (rdE xx X.K (evE con F c)) (gT X.K (.names is)) E σ H := by
  obtain ⟨H0, B, q, A, ow, ρ, s, sim, post⟩ := h
  refine evM_rd sim post fun v d H' s' sim' r p => ?_
  cases d <;> first | exact p.elim | skip
  rename_i ds
  simp only at p
  cases e : setAll is ds ρ with
  | none => rw [e] at p; exact p.elim
  | some ρ' =>
    rw [e] at p
    rw [rep_tup] at r
    obtain ⟨a, vs, rfl, hp, r⟩ := r
    exact ⟨a, vs, rfl, hp, by rw [r.length, setAll_len e], sim'.setAll hi r e fun σ' sim2 => p _ _ _ sim2⟩
theorem par2_rd {c : Cs} {fl : Bool} {i j : Nat} (hi : i ∉ own) (hj : j ∉ own) {E : Ends} {σ : L2.St} {H : Hp} (h : rdS xx X.K own (fun ρ => M.bind (evMs con F own c fl ρ) fun ds => M.bind (M.opt (setAll [i, j] ds ρ)) fun ρ' => M.ret (.nx ρ')) E σ H) : tPar i j (rdA xx X.K (evEs con F c)) E σ H := by
  obtain ⟨H0, B, q, A, ow, ρ, s, sim, post⟩ := h
  refine evMs_rd sim post fun vs ds H' s' sim' r p => ?_
  match ds, p with
  | [d, e], p =>
    obtain ⟨v, w, rfl, r1, r2⟩ := reps2 r
    exact ⟨v, w, rfl, p _ _ _ ((sim'.set hi r1).set hj r2)⟩
  | [], p => exact p.elim
  | [_], p => exact p.elim
  | _ :: _ :: _ :: _, p => exact p.elim
theorem reps3 {K : PySem.W.Frag} {q : Addr} {A : Addr → Prop} {H : Hp} {d e f : D} {vs : List V} (h : Reps K q A H vs [d, e, f]) : ∃ v w u, vs = [v, w, u] ∧ Rep K q A H v d ∧ Rep K q A H w e ∧ Rep K q A H u f := by
  match vs, h with
  | v :: r, h =>
    unfold Reps at h
    obtain ⟨w, u, rfl, h2⟩ := reps2 h.2
    exact ⟨v, w, u, rfl, h.1, h2⟩
  | [], h => unfold Reps at h; exact h.elim
theorem par3_rd {c : Cs} {fl : Bool} {i j l : Nat} (hi : i ∉ own) (hj : j ∉ own) (hl : l ∉ own) {E : Ends} {σ : L2.St} {H : Hp} (h : rdS xx X.K own (fun ρ => M.bind (evMs con F own c fl ρ) fun ds => M.bind (M.opt (setAll [i, j, l] ds ρ)) fun ρ' => M.ret (.nx ρ')) E σ H) : tPar3 i j l (rdA xx X.K (evEs con F c)) E σ H := by
  obtain ⟨H0, B, q, A, ow, ρ, s, sim, post⟩ := h
  refine evMs_rd sim post fun vs ds H' s' sim' r p => ?_
  match ds, p with
  | [d, e, f], p =>
    obtain ⟨v, w, u, rfl, r1, r2, r3⟩ := reps3 r
    exact ⟨v, w, u, rfl, p _ _ _ (((sim'.set hi r1).set hj r2).set hl r3)⟩
  | [], p => exact p.elim
  | [_], p => exact p.elim
  | [_, _], p => exact p.elim
  | _ :: _ :: _ :: _ :: _, p => exact p.elim
theorem newL_rd {c : Cs} {i : Nat} (hi : i ∈ own) {E : Ends} {σ : L2.St} {H : Hp} (h : rdS xx X.K own (fun ρ => M.bind (evEs con F c (mask own ρ)) fun ds => if ds.length ≤ lim then M.ret (.nx (ρ.set i (some (.lst ds)))) else M.no) E σ H) : tAsg (tLst (rdA xx X.K (evEs con F c))) (gName i) E σ H := by
  obtain ⟨H0, B, q, A, ow, ρ, s, sim, post⟩ := h
  refine ⟨q, _, _, s, sim.st, ?_⟩
  simp only [M.bind] at post
  cases e1 : evEs con F c (mask own ρ) s with
  | ok ds s1 =>
    rw [e1] at post
    simp only at post
    split at post
    · rename_i hl
      intro vs H' k d' r
      exact ⟨by rw [r.length]; exact Nat.le_trans hl lim_le, fun p hp => post _ _ _ ((sim.go k d').setOwn hi hp r)⟩
    · exact post.elim
  | exc _ _ => rw [e1] at post; first | exact sim.px post (fun _ z => z) | exact sim.px post (fun _ z => .inl z)
  | no => rw [e1] at post; exact post
theorem parL_rd {c : C} {i j : Nat} (hi : i ∈ own) (hj : j ∉ own) {E : Ends} {σ : L2.St} {H : Hp} (h : rdS xx X.K own (fun ρ => M.bind (evE con F c (mask own ρ)) fun d => M.ret (.nx ((ρ.set i (some (.lst []))).set j (some d)))) E σ H) :
    tPar i j (tCons (tLst tNil) (tCons (rdE xx X.K (evE con F c)) tNil)) E σ H := by
  obtain ⟨H0, B, q, A, ow, ρ, s, sim, post⟩ := h
  refine ⟨Nat.zero_le _, fun p hp => ?_⟩
  have g := owSet_grow (A := A) (ow := ow) (i := i) hp
  have ext : ∀ a o, H a = some o → upd H p (.lst []) a = some o := fun a o e => by
    rw [upd_ne (ne_of_none e hp)]
    exact e
  have sim1 := sim.setOwn (i := i) (vs := []) (xs := []) hi hp Reps.nil
  have st1 : St0 X.K q (Aof A (owSet ow i p)) σ (mask own ρ) (upd H p (.lst [])) s := by
    refine ⟨.inl sim.aq, sim1.st.tr, sim1.dc, fun k d e => ?_, sim.st.ln⟩
    obtain ⟨v, h1, h2⟩ := sim.st.sl k d e
    exact ⟨v, h1, Rep.mono ⟨fun a o _ e => ext a o e, fun a xs e => ext a _ e, fun a o u e => ext a _ e⟩ d v (Rep.grow g d v h2)⟩
  refine ⟨q, _, _, s, st1, ?_⟩
  simp only [M.bind] at post
  cases e1 : evE con F c (mask own ρ) s with
  | ok d s1 =>
    rw [e1] at post
    intro w H' k d' r
    exact ⟨_, _, rfl, post _ _ _ ((sim1.go k d').set hj r)⟩
  | exc _ _ => rw [e1] at post; exact sim1.px post (fun _ z => Or.inl z)
  | no => rw [e1] at post; exact post
theorem parR_rd {c : C} {i j : Nat} (hi : i ∉ own) (hj : j ∈ own) {E : Ends} {σ : L2.St} {H : Hp} (h : rdS xx X.K own (fun ρ => M.bind (evE con F c (mask own ρ)) fun d => M.ret (.nx ((ρ.set i (some d)).set j (some (.lst []))))) E σ H) :
    tPar i j (tCons (rdE xx X.K (evE con F c)) (tCons (tLst tNil) tNil)) E σ H := by
  obtain ⟨H0, B, q, A, ow, ρ, s, sim, post⟩ := h
  refine ⟨q, _, _, s, sim.st, ?_⟩
  simp only [M.bind] at post
  cases e1 : evE con F c (mask own ρ) s with
  | ok d s1 =>
    rw [e1] at post
    intro w H' k d' r
    refine ⟨Nat.zero_le _, fun p hp => ⟨_, _, rfl, post _ _ _ (((sim.go k d').set hi r).setOwn (i := j) (vs := []) (xs := []) hj hp Reps.nil)⟩⟩
  | exc _ _ => rw [e1] at post; exact sim.px post (fun _ z => .inl z)
  | no => rw [e1] at post; exact post
theorem app_rd {c : C} {i : Nat} (hi : i ∈ own) {E : Ends} {σ : L2.St} {H : Hp} (h : rdS xx X.K own (fun ρ => M.bind (M.calm (evE con F c (mask own ρ))) fun d => match getV ρ i with
    | some (.lst xs) => if xs.length < lim then M.ret (.nx (ρ.set i (some (.lst (xs ++ [d]))))) else M.no
    | _ => M.no) E σ H) : tDrop (tBM X.K "list" rAppend (tVar i) (tCons (rdE xx X.K (evE con F c)) tNil)) E σ H := by
  obtain ⟨H0, B, q, A, ow, ρ, s, sim, post⟩ := h
  simp only [M.bind, M.calm] at post
  cases e1 : evE con F c (mask own ρ) s with
  | exc _ _ => rw [e1] at post; exact post.elim
  | no => rw [e1] at post; exact post.elim
  | ok d s1 =>
    rw [e1] at post
    simp only at post
    cases e2 : getV ρ i with
    | none => rw [e2] at post; exact post.elim
    | some l =>
      rw [e2] at post
      cases l <;> first | exact post.elim | skip
      rename_i xs
      simp only at post
      split at post
      · rename_i hz
        obtain ⟨a, vs, ys, h1, h2, h3, h4, h5⟩ := sim.osl i hi _ e2
        refine ⟨.ref a, h2, .inl ⟨rfl, vs, SqL.of h4⟩, q, _, _, s, sim.st, ?_⟩
        rw [e1]
        intro v H' k d' r
        obtain ⟨a', vs', g1, g2, g3, g4⟩ := (sim.go k d').app hi e2 r
        rw [h2] at g1
        cases g1
        exact ⟨a, vs', v, rfl, rfl, g2, by rw [g3]; exact Nat.lt_of_lt_of_le hz lim_le, post _ _ _ g4⟩
      · exact post.elim
end
/-! ### loops -/
theorem for_rd {mi : Env → M (List D)} {t : Tg} {mb : Env → M Fl} (hi : ∀ i ∈ t.slots, i ∉ own) {E : Ends} {σ : L2.St} {H : Hp} (h : rdS xx X.K own (fun ρ => M.bind (mi (mask own ρ)) fun xs => forD (bindT t) mb xs ρ) E σ H) :
    tFor (rdI xx X.K mi) (gT X.K t) (rdS xx X.K own mb) E σ H := by
  obtain ⟨H0, B, q, A, ow, ρ, s, sim, post⟩ := h
  refine ⟨q, _, _, s, sim.st, ?_⟩
  simp only [M.bind] at post
  cases e1 : mi (mask own ρ) s with
  | exc _ _ => rw [e1] at post; first | exact sim.px post (fun _ z => z) | exact sim.px post (fun _ z => .inl z)
  | no => rw [e1] at post; exact post
  | ok xs s1 =>
    rw [e1] at post
    simp only at post
    intro J H1 k1 d1 y
    have sim1 := sim.go k1 d1
    -- from here on by the base at the loop's beginning
    refine ⟨fun i m σ H => m = xs.length - i ∧ i ≤ xs.length ∧ ∃ ow2 ρ2 s2, Sim X.K H1 (fun a => ∃ i, ow i = some a) q A own ow2 σ ρ2 H s2 ∧ PostS xx X.K H0 B q A own E (forD (bindT t) mb (xs.drop i) ρ2 s2), ⟨xs.length, rfl, Nat.zero_le _, ow, ρ, s1, sim1.rebase, post⟩, ?_⟩
    rintro i m σ2 H2 ⟨rfl, hle, ow2, ρ2, s2, sim2, p2⟩
    have mono : Mono (fun a => Aof A ow a ∨ Aof A ow2 a) H1 H2 := by
      have kp := sim2.keep
      refine ⟨fun a o n e => kp a o (fun z => n (.inl (.inl (z ▸ sim.aq)))) (fun ⟨j, z⟩ => n (.inl (.inr ⟨j, z⟩))) e, fun a zs e => ?_, fun a o u e => ?_⟩
      · refine kp a _ (fun z => ?_) (fun ⟨j, z⟩ => ?_) e
        · rw [z, d1] at e
          cases e
        · obtain ⟨_, vs, h⟩ := sim1.otr j a z
          rw [h] at e
          cases e
      · refine kp a _ (fun z => ?_) (fun ⟨j, z⟩ => ?_) e
        · rw [z, d1] at e
          cases e
        · obtain ⟨_, vs, h⟩ := sim1.otr j a z
          rw [h] at e
          cases e
    obtain ⟨yg, ys⟩ := y (fun a => Aof A ow a ∨ Aof A ow2 a) H2 (fun a z => .inl z) (fun a z => by
      rcases z with z | z | ⟨j, z⟩
      · exact .inl z
      · exact .inl (.inl z)
      · rcases sim2.onew j a z with ⟨l, b⟩ | n
        · exact .inl (.inr ⟨l, b⟩)
        · exact .inr n) mono ⟨_, sim2.dc⟩
    by_cases hlt : i < xs.length
    · have ed : xs.drop i = xs[i] :: xs.drop (i + 1) := List.drop_eq_getElem_cons hlt
      obtain ⟨jg, jy⟩ := yg i xs[i] (List.getElem?_eq_getElem hlt)
      refine .inr ⟨jg, fun σ H => i + 1 ≤ xs.length ∧ ∃ ow2 ρ2 s2, Sim X.K H1 (fun a => ∃ i, ow i = some a) q A own ow2 σ ρ2 H s2 ∧ PostS xx X.K H0 B q A own E (forD (bindT t) mb (xs.drop (i + 1)) ρ2 s2), fun σ' H' hx => ⟨xs.length - (i + 1), by omega, rfl, hx⟩, fun v H3 hy => ?_⟩
      obtain ⟨k3, q3, x3, r3⟩ := jy v H3 hy
      have dc3 : Dc q H3 s2 := by
        have := sim2.dc
        unfold Dc at this ⊢
        rw [q3]
        exact this
      have sim3 := sim2.go k3 dc3
      have r3' : Rep X.K q (Aof A ow2) H3 v xs[i] := Rep.anti (fun a z => .inr z) _ v r3
      rw [ed] at p2
      simp only [forD] at p2
      cases e3 : bindT t xs[i] ρ2 with
      | none => rw [e3] at p2; exact p2.elim
      | some ρ' =>
        rw [e3] at p2
        simp only [M.bind] at p2
        -- the target, then the body
        have body : ∀ σ3, Sim X.K H1 (fun a => ∃ i, ow i = some a) q A own ow2 σ3 ρ' H3 s2 → rdS xx X.K own mb { E with nx := fun σ H => i + 1 ≤ xs.length ∧ ∃ ow2 ρ2 s2, Sim X.K H1 (fun a => ∃ i, ow i = some a) q A own ow2 σ ρ2 H s2 ∧ PostS xx X.K H0 B q A own E (forD (bindT t) mb (xs.drop (i + 1)) ρ2 s2), ct := fun σ H => i + 1 ≤ xs.length ∧ ∃ ow2 ρ2 s2, Sim X.K H1 (fun a => ∃ i, ow i = some a) q A own ow2 σ ρ2 H s2 ∧ PostS xx X.K H0 B q A own E (forD (bindT t) mb (xs.drop (i + 1)) ρ2 s2), bk := E.nx } σ3 H3 := fun σ3 sim4 => by
          refine ⟨H1, _, q, A, ow2, ρ', s2, sim4, ?_⟩
          cases e4 : mb ρ' s2 with
          | exc _ _ => rw [e4] at p2; exact fun cls d H' k d' r => p2 cls d H' (fun a o n1 n2 e => k a o n1 (fun ⟨i, hi⟩ => (sim1.onew i a hi).elim n2 (fun z => by rw [z] at e; cases e)) (sim1.keep a o n1 n2 e)) d' r
          | no => rw [e4] at p2; exact p2
          | ok f s5 =>
            rw [e4] at p2
            cases f with
            | nx ρ5 => exact fun ow5 σ5 H5 sim5 => ⟨hlt, ow5, ρ5, s5, sim5, p2⟩
            | ct ρ5 => exact fun ow5 σ5 H5 sim5 => ⟨hlt, ow5, ρ5, s5, sim5, p2⟩
            | bk ρ5 => exact fun ow5 σ5 H5 sim5 => p2 _ _ _ (sim1.back sim5)
            | rt d => exact fun v5 H5 k5 d5 r5 => p2 v5 H5 (sim1.keepBack k5) d5 r5
        cases t with
        | name j =>
          cases e3
          exact body _ (sim3.set (hi j List.mem_cons_self) r3')
        | names is =>
          cases hx : xs[i] with
          | tup ds =>
            rw [hx] at e3 r3'
            simp only [bindT] at e3
            rw [rep_tup] at r3'
            obtain ⟨a, vs, rfl, hp, r⟩ := r3'
            exact ⟨a, vs, rfl, hp, by rw [r.length, setAll_len e3], sim3.setAll hi r e3 fun σ' sim4 => body σ' sim4⟩
          | _ => rw [hx] at e3; cases e3
    · have hi' : i = xs.length := by omega
      subst hi'
      refine .inl ⟨ys _ (Nat.le_refl _), ?_⟩
      rw [List.drop_length] at p2
      exact p2 _ _ _ (sim1.back sim2)
theorem whl_rd {mt : Env → M D} {mb : Env → M Fl} {n : Nat} {E : Ends} {σ : L2.St} {H : Hp} (h : rdS xx X.K own (fun ρ => whlD (fun ρ' => M.bind (mt ρ') fun x => M.opt (truthD x)) mb n ρ) E σ H) :
    tWhile (rdT xx X.K (tst mt)) (rdS xx X.K own mb) E σ H := by
  obtain ⟨H0, B, q, A, ow, ρ, s, sim, post⟩ := h
  refine ⟨fun m σ H => ∃ ow ρ s, Sim X.K H0 B q A own ow σ ρ H s ∧ PostS xx X.K H0 B q A own E (whlD (fun ρ' => M.bind (mt ρ') fun x => M.opt (truthD x)) mb m ρ s), ⟨n, ow, ρ, s, sim, post⟩, ?_⟩
  rintro m σ2 H2 ⟨ow2, ρ2, s2, sim2, p2⟩
  cases m with
  | zero => exact p2.elim
  | succ m =>
    refine ⟨q, A, ρ2, s2, sim2.stF, ?_⟩
    rw [whlD] at p2
    change PostS xx X.K H0 B q A own E (M.bind (tst mt ρ2) _ s2) at p2
    simp only [M.bind] at p2
    cases e1 : tst mt ρ2 s2 with
    | exc _ _ => rw [e1] at p2; exact sim2.px p2 (fun _ z => z)
    | no => rw [e1] at p2; exact p2
    | ok b s3 =>
      rw [e1] at p2
      intro H3 k3 d3
      have sim3 := sim2.go k3 d3
      cases b with
      | false => exact p2 _ _ _ sim3
      | true =>
        simp only [if_true, M.bind] at p2 ⊢
        refine ⟨fun σ H => ∃ ow ρ s, Sim X.K H0 B q A own ow σ ρ H s ∧ PostS xx X.K H0 B q A own E (whlD (fun ρ' => M.bind (mt ρ') fun x => M.opt (truthD x)) mb m ρ s), fun σ' H' hx => ⟨m, Nat.lt_succ_self _, hx⟩, H0, B, q, A, ow2, ρ2, s3, sim3, ?_⟩
        cases e4 : mb ρ2 s3 with
        | exc _ _ => rw [e4] at p2; exact p2
        | no => rw [e4] at p2; exact p2
        | ok f s5 =>
          rw [e4] at p2
          cases f with
          | nx ρ5 => exact fun ow5 σ5 H5 sim5 => ⟨ow5, ρ5, s5, sim5, p2⟩
          | ct ρ5 => exact fun ow5 σ5 H5 sim5 => ⟨ow5, ρ5, s5, sim5, p2⟩
          | bk ρ5 => exact p2
          | rt d => exact p2
end
end Ev

/-! Ev10b: match over a text, cases of literal texts. -/
namespace Ev
open PySem L2 PyProof.Rows
/-- a literal text as a pattern -/
def vPat : Pattern → Option (List Nat)
  | .MatchValue (.Constant (.str x) _ _) _ => some x.cps.toList
  | _ => none
theorem vPat_eq {p : Pattern} {z : List Nat} (h : vPat p = some z) : ∃ k a pos, p = .MatchValue (.Constant (.str (strOf z)) k a) pos := by
  unfold vPat at h
  split at h <;> cases h
  exact ⟨_, _, _, by rw [strOf_of]⟩
def patsB : List (List Nat) → List Pattern → Bool
  | [], [] => true
  | z :: zs, p :: ps => decide (vPat p = some z) && patsB zs ps
  | _, _ => false
def patB (zs : List (List Nat)) (p : Pattern) : Bool :=
  match p with
  | .MatchOr ps _ => patsB zs ps
  | p => match zs with
    | [z] => decide (vPat p = some z)
    | _ => false
section
variable {xx : XX} {X : Cx} {own : List Nat} {pins : List (Addr × Obj)} {σ : L2.St} {H : Hp}
theorem mp_value {z s0 : List Nat} {a pos : Pos} {s : Shared} {u : Value} (I : Inv X pins σ H s) (r : RelV (.str (strOf s0)) u) :
    ∀ {kk : Nat}, wpAny (model X.prog X.w) X.A (matchPattern (.MatchValue (.Constant (.str (strOf z)) kk a) pos) X.env u) (fun b s' => Inv X pins σ H s' ∧ b = if z == s0 then some [] else none) X.xe s := fun {kk} => by
  refine wpAny_matchPattern_Value (thn (pe_str.run pins s σ H (fun v H1 => v = .str (strOf z) ∧ H1 = H) I ⟨rfl, rfl⟩) fun v s1 ⟨x, H1, I1, r1, e1, e2⟩ => ?_)
  subst e1 e2
  refine thn (op_eq pins s1 σ H1 (.str (strOf s0)) (.str (strOf z)) u v (fun c H2 => c = .bl (decide (V.str (strOf s0) = V.str (strOf z))) ∧ H2 = H1) I1 r r1 ⟨rfl, rfl, rfl⟩) fun c s2 ⟨y, H2, I2, r2, e1, e2⟩ => ?_
  subst e1 e2
  cases r2
  refine wpAny_truthy_bool ?_
  by_cases h : z = s0
  · subst h
    rw [if_pos (decide_eq_true rfl)]
    exact ⟨I2, by simp⟩
  · have h2 : ¬ (V.str (strOf s0) = V.str (strOf z)) := fun e => h (strOf_inj (V.str.inj e)).symm
    rw [if_neg (by rw [decide_eq_false h2]; exact Bool.false_ne_true)]
    exact ⟨I2, by simp [h]⟩
theorem mp_first : ∀ {zs : List (List Nat)} {ps : List Pattern} {s0 : List Nat} {s : Shared} {u : Value}, patsB zs ps = true → Inv X pins σ H s → RelV (.str (strOf s0)) u →
    wpAny (model X.prog X.w) X.A (matchFirst ps X.env u) (fun b s' => Inv X pins σ H s' ∧ b = if zs.any (· == s0) then some [] else none) X.xe s
  | [], [], s0, s, u, _, I, _ => wpAny_matchFirst_nil ⟨I, rfl⟩
  | z :: zs, p :: ps, s0, s, u, h, I, r => by
    unfold patsB at h
    rw [Bool.and_eq_true, decide_eq_true_eq] at h
    obtain ⟨k, a, pos, rfl⟩ := vPat_eq h.1
    refine wpAny_matchFirst_cons (thn (mp_value I r) fun b s1 ⟨I1, e⟩ => ?_)
    subst e
    by_cases hz : z = s0
    · subst hz
      simp
      exact I1
    · have hz' : (z == s0) = false := by simpa using hz
      simp only [hz', Bool.false_eq_true, if_false, List.any_cons, Bool.false_or]
      exact mp_first h.2 I1 r
  | [], _ :: _, _, _, _, h, _, _ => by cases h
  | _ :: _, [], _, _, _, h, _, _ => by cases h
theorem names_none : ∀ {zs : List (List Nat)} {ps : List Pattern}, patsB zs ps = true → namesOfAll (ps.take 1) = []
  | [], [], _ => rfl
  | z :: zs, p :: ps, h => by
    unfold patsB at h
    rw [Bool.and_eq_true, decide_eq_true_eq] at h
    obtain ⟨k, a, pos, rfl⟩ := vPat_eq h.1
    rfl
  | [], _ :: _, h => by cases h
  | _ :: _, [], h => by cases h
theorem mp_ok {zs : List (List Nat)} {p : Pattern} {s0 : List Nat} {s : Shared} {u : Value} (h : patB zs p = true) (I : Inv X pins σ H s) (r : RelV (.str (strOf s0)) u) :
    wpAny (model X.prog X.w) X.A (matchPattern p X.env u) (fun b s' => Inv X pins σ H s' ∧ b = if zs.any (· == s0) then some [] else none) X.xe s := by
  unfold patB at h
  split at h
  · rename_i ps pos
    refine wpAny_matchPattern_Or (thn (mp_first h I r) fun b s1 ⟨I1, e⟩ => ?_)
    subst e
    rw [names_none h]
    split
    · rename_i hb
      split at hb
      · cases hb
      · rename_i h3
        rw [if_neg h3]
        exact ⟨I1, rfl⟩
    · rename_i bs hb
      split at hb
      · rename_i h3
        rw [if_pos h3]
        exact ⟨I1, rfl⟩
      · cases hb
  · split at h
    · rename_i z
      rw [decide_eq_true_eq] at h
      obtain ⟨k, a, pos, rfl⟩ := vPat_eq h
      refine thn (mp_value I r) fun b s1 ⟨I1, e⟩ => ⟨I1, ?_⟩
      rw [e]
      simp
    · cases h
/-- the cases of a match over a text -/
def CsOk (xx : XX) (X : Cx) (own : List Nat) (mcs : List MatchCase) (m : List Nat → Env → M Fl) : Prop :=
  ∀ (s0 : List Nat) (pins : List (Addr × Obj)) (s : Shared) (σ : L2.St) (H : Hp) (D : Ends) (u : Value) (first : Bool), Inv X pins σ H s → RelV (.str (strOf s0)) u → rdS xx X.K own (m s0) D σ H →
    wpAny (model X.prog X.w) X.A (matchCases mcs X.env u first) (SP X pins D) X.xe s
theorem cs_nil : CsOk xx X own [] (fun _ ρ => M.ret (.nx ρ)) := fun s0 pins s σ H D u first I r h => by
  obtain ⟨H0, B, q, A, ow, ρ, st, sim, post⟩ := h
  exact wpAny_matchCases_nil ⟨σ, H, I, post _ _ _ sim⟩
theorem cs_cons {zs : List (List Nat)} {p : Pattern} {body : List Stmt} {rest : List MatchCase} {mb : Env → M Fl} {mr : List Nat → Env → M Fl} (hp : patB zs p = true) (hb : PSs X body (rdS xx X.K own mb)) (hr : CsOk xx X own rest mr) :
    CsOk xx X own (⟨p, none, body⟩ :: rest) (fun s ρ => if zs.any (· == s) then mb ρ else mr s ρ) := fun s0 pins s σ H D u first I r h => by
  refine wpAny_matchCases_cons (thn (mp_ok hp I r) fun b s1 ⟨I1, e⟩ => ?_)
  subst e
  by_cases hz : zs.any (· == s0) = true
  · simp only [hz, if_true]
    have h' : rdS xx X.K own mb D σ H := by
      obtain ⟨H0, B, q, A, ow, ρ, st, sim, post⟩ := h
      simp only [hz, if_true] at post
      exact ⟨H0, B, q, A, ow, ρ, st, sim, post⟩
    exact wpAny_assignInOrder_none (hb.run pins s1 σ H D I1 h')
  · simp only [hz, if_false]
    have h' : rdS xx X.K own (mr s0) D σ H := by
      obtain ⟨H0, B, q, A, ow, ρ, st, sim, post⟩ := h
      simp only [hz, if_false] at post
      exact ⟨H0, B, q, A, ow, ρ, st, sim, post⟩
    exact hr s0 pins s1 σ H D u false I1 r h'
theorem sns_mat {c : Expr} {mcs : List MatchCase} {mc : Env → M D} {m : List Nat → Env → M Fl} {pos : Pos} (hc : Snd xx X c mc) (hm : CsOk xx X own mcs m) :
    PS X (.Match c mcs pos) (rdS xx X.K own fun ρ => M.bind (mc ρ) fun x => match x with
      | .str s => m s ρ
      | _ => M.no) := by
  refine ⟨fun pins s σ H D I h => ?_⟩
  obtain ⟨H0, B, q, A, ow, ρ, st, sim, post⟩ := h
  refine wpAny_Match (thn (hc.pe.run pins s σ H (fun v H1 => ∃ s0, v = .str (strOf s0) ∧ rdS xx X.K own (m s0) D σ H1) I ⟨q, _, ρ, st, sim.stF, ?_⟩) fun u s1 ⟨v, H1, I1, r1, s0, e1, q1⟩ => ?_)
  · simp only [M.bind] at post
    cases e1 : mc ρ st with
    | exc _ _ => rw [e1] at post; exact sim.px post (fun _ z => z)
    | no => rw [e1] at post; exact post
    | ok d s1 =>
      rw [e1] at post
      cases d with
      | str z =>
        intro v H' k d' r
        rw [rep_str] at r
        exact ⟨z, r.1, H0, B, q, A, ow, ρ, s1, sim.go k d', post⟩
      | _ => exact post.elim
  · subst e1
    exact hm s0 pins s1 σ H1 D u true I1 r1 q1
end
end Ev

/-! Ev10c: raise and try. -/
namespace Ev
open PySem L2 PyProof.Rows
section
variable {xx : XX} {X : Cx} {own : List Nat}
theorem sns_rsp {cn m : Str} {k j : Nat} {C : Addr} {p p2 pos pos2 : Pos} (hc : X.calm = true) (tk : Tk xx X) (hT : xx.T[k]? = some (C, none)) (T : XCls X.prog X.K X.mg cn none C) (hg : Gl X cn) (hd : (cn == ("__debug__" : Str)) = false) :
    PS X (.Raise (some (.Call (.Name cn p) [.Constant (.str m) j p2] [] pos)) none pos2) (rdS xx X.K own fun _ s => .exc ⟨k, .non⟩ s) := by
  obtain ⟨gC, q, kC, bC, tC⟩ := T
  refine (ps_raise hc tk (pmk_own PySem.F.excBase_ValueError q gC kC (raises_own bC tC) hg hd)).imp fun E σ H ⟨H0, B, q, A, ow, ρ, s, sim, post⟩ => ?_
  exact post (.ref C) none H sim.keep sim.dc ⟨C, none, hT, rfl, rfl⟩
theorem sns_rsx {cn pn : Str} {k n : Nat} {C fI : Addr} {a : Expr} {m : Env → M D} {p pos pos2 : Pos} (hc : X.calm = true) (tk : Tk xx X) (hT : xx.T[k]? = some (C, some pn)) (T : PySem.SupX.SupTxt X.prog X.K X.mg cn pn C fI) (hr : Room n X.A) (hg : Gl X cn) (hd : (cn == ("__debug__" : Str)) = false)
    (h : Snd xx X a m) (hn : notStar a = true) :
    PS X (.Raise (some (.Call (.Name cn p) [a] [] pos)) none pos2) (rdS xx X.K own fun ρ => M.bind (m (mask own ρ)) fun d s => .exc ⟨k, d⟩ s) := by
  refine (ps_raise hc tk (pmk_sup T hr (sna_cons h sna_nil hn) hg hd (star_cons hn))).imp fun E σ H ⟨H0, B, q, A, ow, ρ, s, sim, post⟩ => ?_
  refine ⟨q, Aof A ow, mask own ρ, s, sim.st, ?_⟩
  simp only [M.bind] at post ⊢
  cases e1 : m (mask own ρ) s with
  | exc _ _ => rw [e1] at post; exact sim.px post (fun _ z => .inl z)
  | no => rw [e1] at post; exact post
  | ok d s1 =>
    rw [e1] at post
    intro vs H1 k1 d1 r1
    obtain ⟨v, rfl, r⟩ := reps1 r1
    refine ⟨v, rfl, fun dd hdd => ?_⟩
    have kn : Keep q H1 (upd H1 dd (.xd [(pn, v)])) := Keep.new hdd
    refine post (.ref C) (some dd) _ (fun a o n1 n2 e => kn a o n1 (k1 a o n1 (sim.keep a o n1 n2 e))) (d1.upd hdd) ⟨C, some pn, hT, rfl, dd, v, rfl, upd_same, ?_⟩
    exact Rep.anti (fun a z => .inl z) d v (Rep.mono (kn.mono (.inl sim.aq) d1) d v r)
theorem tk_len {W : WX} (tk : Takes X W) (T : List (Addr × Option Str)) : Tk ⟨T, fun c d H => ∀ σ : L2.St, σ.length = X.N.length → W c d σ H⟩ X := fun u s' ⟨a, B, sI, pins, σ, H, cls, d, e, I, nb, up, sky, na, os, ag, w⟩ =>
  tk u s' ⟨a, B, sI, pins, σ, H, cls, d, e, I, nb, up, sky, na, os, ag, w σ I.len⟩
/-- try: .. except C as n: return n.f -/
theorem sns_tryF {cn pn n : Str} {k i : Nat} {C fI : Addr} {body : List Stmt} {m : Env → M Fl} {np p1 p2 p3 pos pos' : Pos} (hs : X.stack = X.env :: X.outer) (hf : X.env.frame = some X.env.locals) (hN : X.N.Nodup) (hi : X.N[i]? = some n) (hln : X.env.kindOf n = some .local)
    (tk : Tk xx X) (hT : xx.T[k]? = some (C, some pn)) (T : PySem.SupX.SupTxt X.prog X.K X.mg cn pn C fI) (hh : PySem.W.hasDictIn X.K C = true) (hg : Gl X cn) (hd : (cn == ("__debug__" : Str)) = false)
    (exm : ∀ (j : Nat) C' f, xx.T[j]? = some (C', f) → PySem.W.exmOne X.K (.ref C') (.ref C) = some (j == k)) (hdn : (n == ("__debug__" : Str)) = false) (hcn : (n == ("__classdict__" : Str)) = false)
    (hb : ∀ (W : WX) (pn : List (Addr × Obj)) (xe : Value → Shared → Prop), Takes (X.tr pn xe) W → PassesOwn (model X.prog X.w) X.A X.env xe → PSs (X.tr pn xe) body (rdS ⟨xx.T, fun c d H => ∀ σ : L2.St, σ.length = X.N.length → W c d σ H⟩ X.K own m)) :
    PS X (.Try body [.ExceptHandler (some (.Name cn np)) (some n) [.Return (some (.Attribute (.Name n p1) pn p2)) p3] pos'] [] [] pos)
      (rdS xx X.K own fun ρ s => match m ρ s with
        | .exc x s' => handD [⟨[k], some i, .fld⟩] x s'
        | o => o) := by
  have xf : XfC X.K C := ⟨T.ga, T.gg, T.exC, hh⟩
  refine (ps_try_as (i := i) (c := .ref C) (tb := fun W => rdS ⟨xx.T, fun c d H => ∀ σ : L2.St, σ.length = X.N.length → W c d σ H⟩ X.K own m) (ts := fun a cls d => tRet (tXf a cls d C pn (tVar i))) hs hf hN hi hln ⟨hg, hd, .inl T.gC⟩ tk hb
    (fun a oe cls d pn' hz hfl => pss_one (ps_ret (pe_xf xf T.noN hz hfl (pe_var (X := X.suite a ((a, oe) :: pn')) hi (.inl hln) hdn hcn))))).imp fun E σ H ⟨H0, B, q, A, ow, ρ, s, sim, post⟩ => ?_
  refine ⟨H0, B, q, A, ow, ρ, s, sim, ?_⟩
  dsimp only at post
  cases e1 : m ρ s with
  | no => rw [e1] at post; exact post
  | ok fl s1 =>
    rw [e1] at post
    cases fl <;> exact post
  | exc x s1 =>
    rw [e1] at post
    intro cls d H' kb dc xr σ' hl
    obtain ⟨C', f, t1, rfl, t3⟩ := xr
    refine ⟨x.k == k, exm _ _ _ t1, fun hk a ha => ?_, fun hk => ?_⟩
    · have hk' : x.k = k := by simpa using hk
      have post' : PostS xx X.K H0 B q A own E (.ok (.rt x.d) s1) := by
        have e2 : handD [⟨[k], some i, .fld⟩] x s1 = .ok (.rt x.d) s1 := by
          unfold handD
          rw [if_pos (by simp [hk'])]
        rw [← e2]
        exact post
      rw [hk', hT] at t1
      cases t1
      obtain ⟨dd, v, rfl, hdd, rv⟩ := t3
      have hli : i < σ'.length := by
        rw [hl]
        exact (List.getElem?_eq_some_iff.mp hi).1
      refine ⟨_, by rw [List.getElem?_set_self hli], rfl, rfl, dd, _, v, rfl, hdd, by simp [List.lookup], post' v H' kb dc rv⟩
    · have hk' : ¬ x.k = k := by simpa using hk
      have e2 : handD [⟨[k], some i, .fld⟩] x s1 = .exc x s1 := by
        unfold handD
        rw [if_neg (by simpa using hk')]
        rfl
      have post' : PostS xx X.K H0 B q A own E (.exc x s1) := by
        rw [← e2]
        exact post
      exact post' _ _ H' kb dc ⟨C', f, t1, rfl, t3⟩
end
end Ev

/-! Ev11: statements by induction; defs. -/
namespace Ev
open PySem L2 PyProof.Rows

def constTup : Expr → Bool
  | .Tuple vs _ _ => vs.all (foldedForSure 8)
  | _ => false
def notTuple : Expr → Bool
  | .Tuple _ _ _ => false
  | _ => true
def isComp : Expr → Bool
  | .ListComp _ _ _ _ => true
  | _ => false
/-- a list comprehension that is stored within its own frame -/
def swapB (sc : Scope) (y : Str) (py : Pos) : Expr → Bool
  | .ListComp _ _ scope cpos => (match sc.names.lookup y with
    | some .local => true
    | _ => false) && (py.line == cpos.line) && !(scope.names.any fun (n, k) => n == y && (k == .local || k == .cell))
  | _ => false
def locB (sc : Scope) (x : Str) : Bool := match sc.names.lookup x with
  | some .local => true
  | _ => false
def allB (own : List Nat) (is : List Nat) : Bool := is.all fun i => !own.contains i
/-! ### what a statement looks like -/
def vAsgN : Stmt → Option (Str × Pos × Expr × Pos)
  | .Assign [.Name x py] ex pos => some (x, py, ex, pos)
  | _ => none
theorem vAsgN_eq {st : Stmt} {x : Str} {py : Pos} {ex : Expr} {pos : Pos} (h : vAsgN st = some (x, py, ex, pos)) : st = .Assign [.Name x py] ex pos := by
  unfold vAsgN at h
  split at h <;> cases h
  rfl
def vAsgT : Stmt → Option (List Expr × Nat × Pos × Expr × Pos)
  | .Assign [.Tuple es k p] ex pos => some (es, k, p, ex, pos)
  | _ => none
theorem vAsgT_eq {st : Stmt} {es : List Expr} {k : Nat} {p : Pos} {ex : Expr} {pos : Pos} (h : vAsgT st = some (es, k, p, ex, pos)) : st = .Assign [.Tuple es k p] ex pos := by
  unfold vAsgT at h
  split at h <;> cases h
  rfl
def vTup : Expr → Option (List Expr × Nat × Pos)
  | .Tuple es k p => some (es, k, p)
  | _ => none
theorem vTup_eq {e : Expr} {es : List Expr} {k : Nat} {p : Pos} (h : vTup e = some (es, k, p)) : e = .Tuple es k p := by
  unfold vTup at h
  split at h <;> cases h
  rfl
def vLst : Expr → Option (List Expr × Pos)
  | .List es p => some (es, p)
  | _ => none
theorem vLst_eq {e : Expr} {es : List Expr} {p : Pos} (h : vLst e = some (es, p)) : e = .List es p := by
  unfold vLst at h
  split at h <;> cases h
  rfl
def vName : Expr → Option (Str × Pos)
  | .Name x p => some (x, p)
  | _ => none
theorem vName_eq {e : Expr} {x : Str} {p : Pos} (h : vName e = some (x, p)) : e = .Name x p := by
  unfold vName at h
  split at h <;> cases h
  rfl
def vExpr : Stmt → Option (Expr × Pos)
  | .Expr e p => some (e, p)
  | _ => none
theorem vExpr_eq {st : Stmt} {e : Expr} {p : Pos} (h : vExpr st = some (e, p)) : st = .Expr e p := by
  unfold vExpr at h
  split at h <;> cases h
  rfl
/-- o.name(y) -/
def vMeth : Expr → Option (Expr × Str × Pos × Expr × Pos)
  | .Call (.Attribute o name ap) [y] [] cp => some (o, name, ap, y, cp)
  | _ => none
theorem vMeth_eq {e o : Expr} {name : Str} {ap : Pos} {y : Expr} {cp : Pos} (h : vMeth e = some (o, name, ap, y, cp)) : e = .Call (.Attribute o name ap) [y] [] cp := by
  unfold vMeth at h
  split at h <;> cases h
  rfl
def vIf : Stmt → Option (Expr × List Stmt × List Stmt × Pos)
  | .If c a b p => some (c, a, b, p)
  | _ => none
theorem vIf_eq {st : Stmt} {c : Expr} {a b : List Stmt} {p : Pos} (h : vIf st = some (c, a, b, p)) : st = .If c a b p := by
  unfold vIf at h
  split at h <;> cases h
  rfl
def vFor : Stmt → Option (Expr × Expr × List Stmt × Pos)
  | .For t i b [] p => some (t, i, b, p)
  | _ => none
theorem vFor_eq {st : Stmt} {t i : Expr} {b : List Stmt} {p : Pos} (h : vFor st = some (t, i, b, p)) : st = .For t i b [] p := by
  unfold vFor at h
  split at h <;> cases h
  rfl
def vWhl : Stmt → Option (Expr × List Stmt × Pos)
  | .While c b [] p => some (c, b, p)
  | _ => none
theorem vWhl_eq {st : Stmt} {c : Expr} {b : List Stmt} {p : Pos} (h : vWhl st = some (c, b, p)) : st = .While c b [] p := by
  unfold vWhl at h
  split at h <;> cases h
  rfl
def vRet : Stmt → Option (Expr × Pos)
  | .Return (some e) p => some (e, p)
  | _ => none
theorem vRet_eq {st : Stmt} {e : Expr} {p : Pos} (h : vRet st = some (e, p)) : st = .Return (some e) p := by
  unfold vRet at h
  split at h <;> cases h
  rfl
def vMat : Stmt → Option (Expr × List MatchCase × Pos)
  | .Match e cs p => some (e, cs, p)
  | _ => none
theorem vMat_eq {st : Stmt} {e : Expr} {cs : List MatchCase} {p : Pos} (h : vMat st = some (e, cs, p)) : st = .Match e cs p := by
  unfold vMat at h
  split at h <;> cases h
  rfl
def vCase : List MatchCase → Option (Pattern × List Stmt × List MatchCase)
  | ⟨p, none, b⟩ :: r => some (p, b, r)
  | _ => none
theorem vCase_eq {mcs : List MatchCase} {p : Pattern} {b : List Stmt} {r : List MatchCase} (h : vCase mcs = some (p, b, r)) : mcs = ⟨p, none, b⟩ :: r := by
  unfold vCase at h
  split at h <;> cases h
  rfl
def vFlow : Stmt → Option (Nat × Pos)
  | .Pass p => some (0, p)
  | .Break p => some (1, p)
  | .Continue p => some (2, p)
  | .Raise _ _ p => some (3, p)
  | _ => none
def isStr : Expr → Bool
  | .Constant (.str _) _ _ => true
  | _ => false
theorem isStr_eq {e : Expr} (h : isStr e = true) : ∃ m j p, e = .Constant (.str m) j p := by
  unfold isStr at h
  split at h
  · exact ⟨_, _, _, rfl⟩
  · cases h
def vRaise : Stmt → Option (Str × Expr)
  | .Raise (some (.Call (.Name cn _) [y] [] _)) none _ => some (cn, y)
  | _ => none
theorem vRaise_eq {st : Stmt} {cn : Str} {y : Expr} (h : vRaise st = some (cn, y)) : ∃ p pos pos2, st = .Raise (some (.Call (.Name cn p) [y] [] pos)) none pos2 := by
  unfold vRaise at h
  split at h
  · cases h; exact ⟨_, _, _, rfl⟩
  · cases h
def vTry : Stmt → Option (List Stmt × Str × Str × Str × Str)
  | .Try body [.ExceptHandler (some (.Name cn _)) (some n) [.Return (some (.Attribute (.Name n' _) f _)) _] _] [] [] _ => some (body, cn, n, n', f)
  | _ => none
theorem vTry_eq {st : Stmt} {body : List Stmt} {cn n n' f : Str} (h : vTry st = some (body, cn, n, n', f)) : ∃ np p1 p2 p3 pos' pos, st = .Try body [.ExceptHandler (some (.Name cn np)) (some n) [.Return (some (.Attribute (.Name n' p1) f p2)) p3] pos'] [] [] pos := by
  unfold vTry at h
  split at h
  · cases h; exact ⟨_, _, _, _, _, _, rfl⟩
  · cases h
section
variable (G : Gam) (own : List Nat)
def okPar (is : List Nat) (ns : List (Option (Str × Pos))) (vs : List Expr) (sc : Scope) : Bool :=
  match is, ns, vs with
  | [i, j], [some (x, px), some (y, py)], [a, b] => allB own [i, j] && decide (G.N[i]? = some x) && decide (G.N[j]? = some y) && decide (i ≠ j) && decide (x ≠ y) && locB sc x && locB sc y && (py.line == px.line) && notStar a && notStar b
      && !(foldedForSure 8 a && foldedForSure 8 b) && !(constantsAlone 8 a && constantsAlone 8 b)
  | [i, j, l], [some (x, px), some (y, py), some (z, pz)], [a, b, c] => allB own [i, j, l] && decide (G.N[i]? = some x) && decide (G.N[j]? = some y) && decide (G.N[l]? = some z) && decide (i ≠ j) && decide (i ≠ l) && decide (j ≠ l) && decide (x ≠ y) && decide (x ≠ z) && decide (y ≠ z)
      && locB sc x && locB sc y && locB sc z && (py.line == px.line) && (pz.line == px.line) && notStar a && notStar b && notStar c
      && !(foldedForSure 8 a && foldedForSure 8 b && foldedForSure 8 c) && !(constantsAlone 8 a && constantsAlone 8 b && constantsAlone 8 c)
  | _, _, _ => false
def okParL (i j : Nat) (ns : List (Option (Str × Pos))) (vs : List Expr) (sc : Scope) (k : Expr → Bool) : Bool :=
  match ns, vs with
  | [some (x, px), some (y, py)], [a, b] => (match vLst a with
    | some ([], _) => own.contains i && allB own [j] && decide (G.N[i]? = some x) && decide (G.N[j]? = some y) && decide (i ≠ j) && decide (x ≠ y) && locB sc x && locB sc y && (py.line == px.line) && notStar b && k b
    | _ => false)
  | _, _ => false
def okParR (i j : Nat) (ns : List (Option (Str × Pos))) (vs : List Expr) (sc : Scope) (k : Expr → Bool) : Bool :=
  match ns, vs with
  | [some (x, px), some (y, py)], [a, b] => (match vLst b with
    | some ([], _) => own.contains j && allB own [i] && decide (G.N[i]? = some x) && decide (G.N[j]? = some y) && decide (i ≠ j) && decide (x ≠ y) && locB sc x && locB sc y && (py.line == px.line) && notStar a && k a
    | _ => false)
  | _, _ => false
mutual
def okS : St → Scope → Stmt → Bool
  | .set i e m, sc, st => match vAsgN st with
    | some (x, py, ex, _) => allB own [i] && decide (G.N[i]? = some x) && stB sc x && (notComp ex || isComp ex) && okE G e sc ex
    | none => false
  | .unp is e m, sc, st => match vAsgT st with
    | some (es, _, _, ex, _) => allB own is && namesOk G.N (stB sc) is es && (notTuple ex || constTup ex) && okE G e sc ex
    | none => false
  | .par is cs m, sc, st => match vAsgT st with
    | some (es, _, _, ex, _) => (match vTup ex with
      | some (vs, _, _) => okPar G own is (es.map vName) vs sc && okEs G cs sc vs
      | none => false)
    | none => false
  | .newL i es, sc, st => match vAsgN st with
    | some (x, py, ex, _) => (match vLst ex with
      | some (xs, _) => own.contains i && decide (G.N[i]? = some x) && stB sc x && okEs G es sc xs
      | none => false)
    | none => false
  | .parL i j e, sc, st => match vAsgT st with
    | some (es, _, _, ex, _) => (match vTup ex with
      | some (vs, _, _) => okParL G own i j (es.map vName) vs sc (fun b => okE G e sc b)
      | none => false)
    | none => false
  | .parR i j e, sc, st => match vAsgT st with
    | some (es, _, _, ex, _) => (match vTup ex with
      | some (vs, _, _) => okParR G own i j (es.map vName) vs sc (fun b => okE G e sc b)
      | none => false)
    | none => false
  | .app i e, sc, st => match vExpr st with
    | some (c, _) => (match vMeth c with
      | some (o, name, ap, y, cp) => (match vName o with
        | some (x, _) => own.contains i && decide (G.N[i]? = some x) && visB sc x && notDbg x && !(x == ("__classdict__" : Str)) && decide (name = "append") && (ap.endLine == cp.line) && notStar y && okE G e sc y
        | none => false)
      | none => false)
    | none => false
  | .ifs t a b, sc, st => match vIf st with
    | some (c, xs, ys, _) => okE G t sc c && okSs a sc xs && okSs b sc ys
    | none => false
  | .for_ tg it b, sc, st => match vFor st with
    | some (tgt, iter, body, _) => allB own tg.slots && okIt G it sc tgt iter && tgOk G.N (stB sc) tg tgt && notSet iter && okSs b sc body
    | none => false
  | .whl t b, sc, st => match vWhl st with
    | some (c, body, _) => okE G t sc c && okSs b sc body
    | none => false
  | .ret e, sc, st => match vRet st with
    | some (x, _) => okE G e sc x
    | none => false
  | .ex e, sc, st => match vExpr st with
    | some (x, _) => notComp x && okE G e sc x
    | none => false
  | .mat e cs _, sc, st => match vMat st with
    | some (x, mcs, _) => okE G e sc x && okCs cs sc mcs
    | none => false
  | .rsx k e, sc, st => match vRaise st with
    | some (cn, y) => (match G.exc[k]? with
      | some (cn', some _) => decide (cn = cn')
      | _ => false) && glB sc cn && notDbg cn && notStar y && okE G e sc y
    | none => false
  | .rsp k, sc, st => match vRaise st with
    | some (cn, y) => (match G.exc[k]? with
      | some (cn', none) => decide (cn = cn')
      | _ => false) && glB sc cn && notDbg cn && isStr y
    | none => false
  | .try_ b hs, sc, st => match vTry st with
    | some (body, cn, n, n', f) => (match hs with
      | [⟨[k], some i, .fld⟩] => (match G.exc[k]? with
        | some (cn', some f') => decide (cn = cn') && decide (f = f')
        | _ => false) && decide (G.N[i]? = some n) && decide (n = n') && locB sc n && notDbg n && !(n == ("__classdict__" : Str)) && glB sc cn && notDbg cn && okSs b sc body
      | _ => false)
    | none => false
  | .rse, _, st => match vFlow st with
    | some (3, _) => true
    | _ => false
  | .pass, _, st => match vFlow st with
    | some (0, _) => true
    | _ => false
  | .brk, _, st => match vFlow st with
    | some (1, _) => true
    | _ => false
  | .cnt, _, st => match vFlow st with
    | some (2, _) => true
    | _ => false
def okSs : Sts → Scope → List Stmt → Bool
  | .nil, _, st => st.isEmpty
  | .cons s r, sc, st => match st with
    | x :: xs => okS s sc x && okSs r sc xs
    | [] => false
def okCs : Cases → Scope → List MatchCase → Bool
  | .nil, _, mcs => mcs.isEmpty
  | .cons ps b r, sc, mcs => match vCase mcs with
    | some (p, body, rest) => patB ps p && okSs b sc body && okCs r sc rest
    | none => false
end
end
section
variable {xx : XX} {G : Gam} {con : List D} {F : Nat → List D → M D} {n : Nat} {sc : Scope} {X : Cx} {own : List Nat}
/-- a def's body: what is known besides -/
structure XD (X : Cx) : Prop where
  kind : X.env.scope.kind = .function
  fn : ∀ x, X.fn x = true
  po : PassesOwn (model X.prog X.w) X.A X.env X.xe
  stk : X.stack = X.env :: X.outer
  frm : X.env.frame = some X.env.locals
theorem XD.stores (d : XD X) (hs : X.env.scope = sc) : Stores X (stB sc) := fun x h => by
  unfold stB at h
  refine ⟨?_, .inl (d.fn x)⟩
  unfold L2.Loc
  rw [hs]
  split at h <;> first | exact .inl (by assumption) | exact .inr (by assumption) | cases h
theorem all_of {is : List Nat} (h : allB own is = true) : ∀ i ∈ is, i ∉ own := fun i hi z => by
  have := List.all_eq_true.mp h i hi
  simp at this
  exact this z
theorem loc_of {x : Str} (h : locB sc x = true) : sc.names.lookup x = some .local := by
  unfold locB at h
  split at h
  · assumption
  · cases h
theorem block_of (d : XD X) : X.env.blockKind = .function := by
  unfold Env.blockKind
  rw [d.kind]
  rfl
theorem swaps_tup {e : Expr} {es : List Expr} {k : Nat} {p : Pos} {l : Nat} {env : PySem.Env} : swapsWithSole [.Tuple es k p] e l env = pure false := by
  unfold swapsWithSole swapsWith
  cases e <;> rfl
theorem stores_const {vs es : List Expr} {k k2 : Nat} {p p2 : Pos} {env : PySem.Env} (h : vs.all (foldedForSure 8) = true) : swappedStores [.Tuple es k p] (.Tuple vs k2 p2) env = pure none := by
  unfold swappedStores
  dsimp only
  split
  · rfl
  split
  · rfl
  split
  · rfl
  first | rfl | rw [if_pos h]
theorem stores_none {e : Expr} {es : List Expr} {k : Nat} {p : Pos} {env : PySem.Env} (h : notTuple e = true) : swappedStores [.Tuple es k p] e env = pure none := by
  unfold swappedStores
  cases e <;> first | rfl | cases h
theorem stores_nc {e : Expr} {es : List Expr} {k : Nat} {p : Pos} {env : PySem.Env} (h : (notTuple e || constTup e) = true) : swappedStores [.Tuple es k p] e env = pure none := by
  rw [Bool.or_eq_true] at h
  rcases h with h | h
  · exact stores_none h
  · unfold constTup at h
    split at h
    · exact stores_const h
    · cases h
theorem notStar_ne : ∀ (e : Expr), notStar e = true → (match e with | .Starred _ _ => true | _ => false) = false := by
  intro e h
  cases e <;> first | rfl | cases h
theorem dups2 {x y : Str} (h : x ≠ y) : [x, y].eraseDups = [x, y] := by
  have h' : (y == x) = false := beq_eq_false_iff_ne.mpr (Ne.symm h)
  simp [List.eraseDups_cons, h']
theorem dups3 {x y z : Str} (h : x ≠ y) (h2 : x ≠ z) (h3 : y ≠ z) : [x, y, z].eraseDups = [x, y, z] := by
  have e1 : (y == x) = false := beq_eq_false_iff_ne.mpr (Ne.symm h)
  have e2 : (z == x) = false := beq_eq_false_iff_ne.mpr (Ne.symm h2)
  have e3 : (z == y) = false := beq_eq_false_iff_ne.mpr (Ne.symm h3)
  simp [List.eraseDups_cons, e1, e2, e3]
theorem stores_two {x y : Str} {px py pt pt2 : Pos} {kt k2 : Nat} {a b : Expr} {env : PySem.Env} (hb : env.blockKind = .function) (hx : env.kindOf x = some .local) (hy : env.kindOf y = some .local) (hne : x ≠ y) (hl : (py.line == px.line) = true)
    (na : notStar a = true) (nb : notStar b = true) (hf : (foldedForSure 8 a && foldedForSure 8 b) = false) (hc : (constantsAlone 8 a && constantsAlone 8 b) = false) :
    swappedStores [.Tuple [.Name x px, .Name y py] kt pt] (.Tuple [a, b] k2 pt2) env = pure (some [x, y]) := by
  have hd := dups2 hne
  unfold swappedStores
  simp only [List.length_cons, List.length_nil, hb, List.any_cons, List.any_nil, List.head?_cons, Option.map_some, Option.getD_some, Expr.pos, List.filterMap_cons, List.filterMap_nil, hx, hy, hl, beq_self_eq_true, Bool.and_true, if_true, hd, List.all_cons, List.all_nil, hf, hc]
  refine (if_neg (by decide)).trans ?_
  refine (if_neg ?_).trans ?_
  · intro h
    simp only [Bool.or_eq_true] at h
    rcases h with h | h | h
    · cases a <;> first | exact (Bool.false_ne_true h).elim | exact (Bool.false_ne_true na).elim
    · cases b <;> first | exact (Bool.false_ne_true h).elim | exact (Bool.false_ne_true nb).elim
    · cases h
  · rfl
theorem stores_three {x y z : Str} {px py pz pt pt2 : Pos} {kt k2 : Nat} {a b c : Expr} {env : PySem.Env} (hb : env.blockKind = .function) (hx : env.kindOf x = some .local) (hy : env.kindOf y = some .local) (hz : env.kindOf z = some .local) (hne : x ≠ y) (hne2 : x ≠ z) (hne3 : y ≠ z)
    (hl : (py.line == px.line) = true) (hl2 : (pz.line == px.line) = true)
    (na : notStar a = true) (nb : notStar b = true) (nc : notStar c = true) (hf : (foldedForSure 8 a && (foldedForSure 8 b && foldedForSure 8 c)) = false) (hc : (constantsAlone 8 a && (constantsAlone 8 b && constantsAlone 8 c)) = false) :
    swappedStores [.Tuple [.Name x px, .Name y py, .Name z pz] kt pt] (.Tuple [a, b, c] k2 pt2) env = pure (some [x, y, z]) := by
  have hd := dups3 hne hne2 hne3
  unfold swappedStores
  simp only [List.length_cons, List.length_nil, hb, List.any_cons, List.any_nil, List.head?_cons, Option.map_some, Option.getD_some, Expr.pos, List.filterMap_cons, List.filterMap_nil, hx, hy, hz, hl, hl2, beq_self_eq_true, Bool.and_true, if_true, hd, List.all_cons, List.all_nil, hf, hc]
  refine (if_neg (by decide)).trans ?_
  refine (if_neg ?_).trans ?_
  · intro h
    simp only [Bool.or_eq_true] at h
    rcases h with h | h | h | h
    · cases a <;> first | exact (Bool.false_ne_true h).elim | exact (Bool.false_ne_true na).elim
    · cases b <;> first | exact (Bool.false_ne_true h).elim | exact (Bool.false_ne_true nb).elim
    · cases c <;> first | exact (Bool.false_ne_true h).elim | exact (Bool.false_ne_true nc).elim
    · cases h
  · rfl
theorem swaps_comp {elt : Expr} {gs : List Comprehension} {scope : Scope} {cpos py : Pos} {y : Str} {l : Nat} (d : XD X) (hs : X.env.scope = sc) : swapsWith (.ListComp elt gs scope cpos) (some (.Name y py)) l X.env = pure (swapB sc y py (.ListComp elt gs scope cpos)) := by
  have hb := block_of d
  have hk : X.env.kindOf y = sc.names.lookup y := by
    show X.env.scope.names.lookup y = _
    rw [hs]
  unfold swapsWith swapB
  simp only [hb, hk, Expr.pos]
  cases e : sc.names.lookup y with
  | none => rfl
  | some k => cases k <;> rfl
theorem flow_eq {st : Stmt} {k : Nat} {p : Pos} (h : vFlow st = some (k, p)) : (k = 0 ∧ st = .Pass p) ∨ (k = 1 ∧ st = .Break p) ∨ (k = 2 ∧ st = .Continue p) ∨ k = 3 := by
  unfold vFlow at h
  split at h <;> cases h
  · exact .inl ⟨rfl, rfl⟩
  · exact .inr (.inl ⟨rfl, rfl⟩)
  · exact .inr (.inr (.inl ⟨rfl, rfl⟩))
  · exact .inr (.inr (.inr rfl))
theorem names2 {es : List Expr} {a b : Str × Pos} (h : es.map vName = [some a, some b]) : es = [.Name a.1 a.2, .Name b.1 b.2] := by
  match es, h with
  | [e, f], h =>
    simp only [List.map_cons, List.map_nil, List.cons.injEq, and_true] at h
    rw [vName_eq h.1, vName_eq h.2]
  | [], h => cases h
  | [_], h => simp at h
  | _ :: _ :: _ :: _, h => simp at h
theorem names3 {es : List Expr} {a b c : Str × Pos} (h : es.map vName = [some a, some b, some c]) : es = [.Name a.1 a.2, .Name b.1 b.2, .Name c.1 c.2] := by
  match es, h with
  | [e, f, g], h =>
    simp only [List.map_cons, List.map_nil, List.cons.injEq, and_true] at h
    rw [vName_eq h.1, vName_eq h.2.1, vName_eq h.2.2]
  | [], h => cases h
  | [_], h => simp at h
  | [_, _], h => simp at h
  | _ :: _ :: _ :: _ :: _, h => simp at h
theorem par_ok (d : XD X) (x : XF xx G con F n sc X) {is : List Nat} {es vs : List Expr} {k k2 : Nat} {p p2 pos : Pos} {cs : Cs} {m : Bool} (h : okPar G own is (es.map vName) vs sc = true) (ha : PA X vs (rdA xx X.K (evEs con F cs))) :
    PS X (.Assign [.Tuple es k p] (.Tuple vs k2 p2) pos) (rdS xx X.K own (exS con F own (.par is cs m))) := by
  generalize hn : es.map vName = ns at h
  unfold okPar at h
  split at h
  · obtain rfl := names2 hn
    simp only [Bool.and_eq_true, decide_eq_true_eq, Bool.not_eq_true'] at h
    obtain ⟨⟨⟨⟨⟨⟨⟨⟨⟨⟨⟨h1, h2⟩, h3⟩, h4⟩, h5⟩, h6⟩, h7⟩, h8⟩, h9⟩, h10⟩, h11⟩, h12⟩ := h
    have lu := loc_of h6
    have lv := loc_of h7
    rw [← x.hs] at lu lv
    refine (ps_par x.calm x.nd (by rw [x.hN]; exact h2) (by rw [x.hN]; exact h3) h4 lu lv ha (stores_two (block_of d) lu lv h5 h8 h9 h10 h11 h12) swaps_tup).imp fun E σ H hr => ?_
    exact par2_rd (all_of h1 _ (by simp)) (all_of h1 _ (by simp)) hr
  · obtain rfl := names3 hn
    simp only [Bool.and_eq_true, decide_eq_true_eq, Bool.not_eq_true'] at h
    obtain ⟨⟨⟨⟨⟨⟨⟨⟨⟨⟨⟨⟨⟨⟨⟨⟨⟨⟨⟨h1, h2⟩, h3⟩, h4⟩, h5⟩, h6⟩, h7⟩, h8⟩, h9⟩, h10⟩, h11⟩, h12⟩, h13⟩, h14⟩, h15⟩, h16⟩, h17⟩, h18⟩, h19⟩, h20⟩ := h
    have lu := loc_of h11
    have lv := loc_of h12
    have lw := loc_of h13
    rw [← x.hs] at lu lv lw
    refine (ps_par3 x.calm x.nd (by rw [x.hN]; exact h2) (by rw [x.hN]; exact h3) (by rw [x.hN]; exact h4) h5 h6 h7 lu lv lw ha (stores_three (block_of d) lu lv lw h8 h9 h10 h14 h15 h16 h17 h18 (by rw [← Bool.and_assoc]; exact h19) (by rw [← Bool.and_assoc]; exact h20)) swaps_tup).imp fun E σ H hr => ?_
    exact par3_rd (all_of h1 _ (by simp)) (all_of h1 _ (by simp)) (all_of h1 _ (by simp)) hr
  · cases h
theorem parL_ok (d : XD X) (x : XF xx G con F n sc X) {i j : Nat} {es vs : List Expr} {k k2 : Nat} {p p2 pos : Pos} {c : C} {kk : Expr → Bool} (h : okParL G own i j (es.map vName) vs sc kk = true) (hk : ∀ b, kk b = true → Snd xx X b (evE con F c)) :
    PS X (.Assign [.Tuple es k p] (.Tuple vs k2 p2) pos) (rdS xx X.K own (exS con F own (.parL i j c))) := by
  generalize hn : es.map vName = ns at h
  unfold okParL at h
  split at h
  · obtain rfl := names2 hn
    split at h
    · rename_i hl
      obtain rfl := vLst_eq hl
      simp only [Bool.and_eq_true, decide_eq_true_eq] at h
      obtain ⟨⟨⟨⟨⟨⟨⟨⟨⟨⟨h0, h1⟩, h2⟩, h3⟩, h4⟩, h5⟩, h6⟩, h7⟩, h8⟩, h9⟩, h10⟩ := h
      have lu := loc_of h6
      have lv := loc_of h7
      rw [← x.hs] at lu lv
      refine (ps_par x.calm x.nd (by rw [x.hN]; exact h2) (by rw [x.hN]; exact h3) h4 lu lv (pa_cons (pe_lst pa_nil) (pa_cons (hk _ h10).pe pa_nil (star_cons h9)) rfl) (stores_two (block_of d) lu lv h5 h8 rfl h9 rfl rfl) swaps_tup).imp fun E σ H hr => ?_
      exact parL_rd (by simpa using h0) (all_of h1 j (by simp)) hr
    · cases h
  · cases h
theorem parR_ok (d : XD X) (x : XF xx G con F n sc X) {i j : Nat} {es vs : List Expr} {k k2 : Nat} {p p2 pos : Pos} {c : C} {kk : Expr → Bool} (h : okParR G own i j (es.map vName) vs sc kk = true) (hk : ∀ b, kk b = true → Snd xx X b (evE con F c)) :
    PS X (.Assign [.Tuple es k p] (.Tuple vs k2 p2) pos) (rdS xx X.K own (exS con F own (.parR i j c))) := by
  generalize hn : es.map vName = ns at h
  unfold okParR at h
  split at h
  · obtain rfl := names2 hn
    split at h
    · rename_i hl
      obtain rfl := vLst_eq hl
      simp only [Bool.and_eq_true, decide_eq_true_eq] at h
      obtain ⟨⟨⟨⟨⟨⟨⟨⟨⟨⟨h0, h1⟩, h2⟩, h3⟩, h4⟩, h5⟩, h6⟩, h7⟩, h8⟩, h9⟩, h10⟩ := h
      have lu := loc_of h6
      have lv := loc_of h7
      rw [← x.hs] at lu lv
      refine (ps_par x.calm x.nd (by rw [x.hN]; exact h2) (by rw [x.hN]; exact h3) h4 lu lv (pa_cons (hk _ h10).pe (pa_cons (pe_lst pa_nil) pa_nil rfl) (star_cons h9)) (stores_two (block_of d) lu lv h5 h8 h9 rfl (Bool.and_false _) (Bool.and_false _)) swaps_tup).imp fun E σ H hr => ?_
      exact parR_rd (all_of h1 i (by simp)) (by simpa using h0) hr
    · cases h
  · cases h
/-- name = a comprehension, stored in its own frame -/
theorem setLc_ok (d : XD X) (x : XF xx G con F n sc X) {i : Nat} {y : Str} {py pos cpos : Pos} {elt : Expr} {gs : List Comprehension} {scope : Scope} {e : C} {m : Bool} (hi : i ∉ own) (hN : X.N[i]? = some y) (hsw : swapB sc y py (.ListComp elt gs scope cpos) = true)
    (h : okE G e sc (.ListComp elt gs scope cpos) = true) : PS X (.Assign [.Name y py] (.ListComp elt gs scope cpos) pos) (rdS xx X.K own (exS con F own (.set i e m))) := by
  have hl : X.env.scope.names.lookup y = some .local := by
    rw [x.hs]
    simp only [swapB, Bool.and_eq_true] at hsw
    exact loc_of hsw.1.1
  cases e <;> first | (simp only [okE] at h; cases h; done) | skip
  rename_i e1 tg it t ow
  match gs, h with
  | [⟨tgt, iter, ifs, k⟩], h =>
    simp only [okE, Bool.and_eq_true, decide_eq_true_eq] at h
    obtain ⟨⟨⟨⟨⟨⟨⟨⟨rfl, g1⟩, g2⟩, g3⟩, g4⟩, g5⟩, g6⟩, g7⟩, g8⟩ := h
    refine (ps_setLc (own := ownN G.N ow) (g := gT X.K tg) (tt := rdT xx.shut X.K (evCt con F t)) (te := rdE xx.shut X.K (evE con F e1)) x.calm x.nd hN hl (by rw [swaps_comp d x.hs, hsw]) (sndIt it sc X tgt iter _ x g1) (blkOk_by (by rw [x.hN, x.hs]; exact g5))
      (fun s H C cl fp => pg_tg (X := X.blk s H scope (compEnvC scope cl C X.env) fp) x.calm x.nd (stores_blk x s H scope cl C fp) (by show tgOk X.N _ _ _ = true; rw [x.hN]; exact g2))
      (fun s H C cl fp => sndCt t _ _ ifs _ (x.blk s H scope cl C fp) g3) (fun s H C cl fp => (sndE e1 _ _ elt _ (x.blk s H scope cl C fp) g4).pe) (folded_no g8)).imp fun E σ H hr => ?_
    rw [g6]
    exact comp_rd (fun i hi => by simpa using List.all_eq_true.mp g7 i hi) (set_rd hi hr)
mutual
theorem sndS : ∀ (c : St) (st : Stmt) (xx : XX) (X : Cx), XD X → XF xx G con F n sc X → okS G own c sc st = true → PS X st (rdS xx X.K own (exS con F own c))
  | .set i e m, st, xx, X, d, x, h => by
    simp only [okS] at h
    split at h
    · rename_i y py ex pos hv
      obtain rfl := vAsgN_eq hv
      simp only [Bool.and_eq_true, decide_eq_true_eq] at h
      obtain ⟨⟨⟨⟨h1, h2⟩, h3⟩, h4⟩, h5⟩ := h
      obtain ⟨lo, fo⟩ := d.stores x.hs y h3
      have hi := all_of h1 i List.mem_cons_self
      have hN : X.N[i]? = some y := by rw [x.hN]; exact h2
      have plain : swapsWith ex (some (.Name y py)) pos.line X.env = pure false → PS X (.Assign [.Name y py] ex pos) (rdS xx X.K own (exS con F own (.set i e m))) := fun hsw =>
        (ps_set x.nd hN lo (sndE e sc X ex _ x h5).pe hsw fo).imp fun E σ H hr => set_rd hi hr
      by_cases hn : notComp ex = true
      · exact plain (swaps_no hn)
      · have hc : isComp ex = true := by
          rw [Bool.or_eq_true] at h4
          exact h4.resolve_left hn
        unfold isComp at hc
        split at hc
        · rename_i elt gs scope cpos
          cases hsw : swapB sc y py (.ListComp elt gs scope cpos) with
          | false => exact plain (by rw [swaps_comp d x.hs, hsw])
          | true => exact setLc_ok d x hi hN hsw h5
        · cases hc
    · cases h
  | .unp is e m, st, xx, X, d, x, h => by
    simp only [okS] at h
    split at h
    · rename_i es k p ex pos hv
      obtain rfl := vAsgT_eq hv
      simp only [Bool.and_eq_true] at h
      obtain ⟨⟨⟨h1, h2⟩, h3⟩, h4⟩ := h
      refine (ps_asg (sndE e sc X ex _ x h4).pe (pg_tg (t := .names is) x.calm x.nd (d.stores x.hs) (by simp only [tgOk]; rw [x.hN]; exact h2)) swaps_tup (stores_nc h3) rfl).imp fun E σ H hr => unp_rd (all_of h1) hr
    · cases h
  | .par is cs m, st, xx, X, d, x, h => by
    simp only [okS] at h
    split at h
    · rename_i es k p ex pos hv
      obtain rfl := vAsgT_eq hv
      split at h
      · rename_i vs k2 p2 hv2
        obtain rfl := vTup_eq hv2
        rw [Bool.and_eq_true] at h
        exact par_ok d x h.1 (sndEs cs sc X _ _ x h.2).1
      · cases h
    · cases h
  | .newL i es, st, xx, X, d, x, h => by
    simp only [okS] at h
    split at h
    · rename_i y py ex pos hv
      obtain rfl := vAsgN_eq hv
      split at h
      · rename_i xs lp hv2
        obtain rfl := vLst_eq hv2
        simp only [Bool.and_eq_true, decide_eq_true_eq] at h
        obtain ⟨⟨⟨h1, h2⟩, h3⟩, h4⟩ := h
        obtain ⟨lo, fo⟩ := d.stores x.hs y h3
        exact (ps_set x.nd (by rw [x.hN]; exact h2) lo (pe_lst (sndEs es sc X xs _ x h4).1) (swaps_no rfl) fo).imp fun E σ H hr => newL_rd (by simpa using h1) hr
      · cases h
    · cases h
  | .parL i j e, st, xx, X, d, x, h => by
    simp only [okS] at h
    split at h
    · rename_i es k p ex pos hv
      obtain rfl := vAsgT_eq hv
      split at h
      · rename_i vs k2 p2 hv2
        obtain rfl := vTup_eq hv2
        exact parL_ok d x h fun b hb => sndE e sc X b _ x hb
      · cases h
    · cases h
  | .parR i j e, st, xx, X, d, x, h => by
    simp only [okS] at h
    split at h
    · rename_i es k p ex pos hv
      obtain rfl := vAsgT_eq hv
      split at h
      · rename_i vs k2 p2 hv2
        obtain rfl := vTup_eq hv2
        exact parR_ok d x h fun b hb => sndE e sc X b _ x hb
      · cases h
    · cases h
  | .app i e, st, xx, X, d, x, h => by
    simp only [okS] at h
    split at h
    · rename_i c pos hv
      obtain rfl := vExpr_eq hv
      split at h
      · rename_i o name ap z cp hv2
        obtain rfl := vMeth_eq hv2
        split at h
        · rename_i y p hv3
          obtain rfl := vName_eq hv3
          simp only [Bool.and_eq_true, decide_eq_true_eq, Bool.not_eq_true'] at h
          obtain ⟨⟨⟨⟨⟨⟨⟨⟨h1, h2⟩, h3⟩, h4⟩, h5⟩, rfl⟩, h7⟩, h8⟩, h9⟩ := h
          refine (ps_expr (pe_bm PySem.F.plainAttrs_list PySem.F.slot_list_append PySem.F.type_list_append mt_append (pe_var (i := i) (by rw [x.hN]; exact h2) (by rw [x.hs]; exact vis_of h3) (dbg_of h4) h5) (pa_cons (sndE e sc X z _ x h9).pe pa_nil (star_cons h8))
            (attr_base rfl) (by rw [star_cons h8]; rfl) h7 (star_cons h8) rfl) (swaps_no rfl)).imp fun E σ H hr => app_rd (by simpa using h1) hr
        · cases h
      · cases h
    · cases h
  | .ifs t a b, st, xx, X, d, x, h => by
    simp only [okS] at h
    split at h
    · rename_i c xs ys pos hv
      obtain rfl := vIf_eq hv
      simp only [Bool.and_eq_true] at h
      exact sns_if (sndE t sc X c _ x h.1.1) (sndSs a xs _ _ d x h.1.2) (sndSs b ys _ _ d x h.2)
    · cases h
  | .for_ tg it b, st, xx, X, d, x, h => by
    simp only [okS] at h
    split at h
    · rename_i tgt iter body pos hv
      obtain rfl := vFor_eq hv
      simp only [Bool.and_eq_true] at h
      obtain ⟨⟨⟨⟨h1, h2⟩, h3⟩, h4⟩, h5⟩ := h
      exact (ps_for d.po x.calm (sndIt it sc X tgt iter _ x h2) (pg_tg x.calm x.nd (d.stores x.hs) (by rw [x.hN]; exact h3)) (sndSs b body _ _ d x h5) (folded_no h4)).imp fun E σ H hr => for_rd (all_of h1) hr
    · cases h
  | .whl t b, st, xx, X, d, x, h => by
    simp only [okS] at h
    split at h
    · rename_i c body pos hv
      obtain rfl := vWhl_eq hv
      simp only [Bool.and_eq_true] at h
      exact (ps_while d.po (sndE t sc X c _ x h.1).pt (sndSs b body _ _ d x h.2)).imp fun E σ H hr => whl_rd hr
    · cases h
  | .ret e, st, xx, X, d, x, h => by
    simp only [okS] at h
    split at h
    · rename_i y pos hv
      obtain rfl := vRet_eq hv
      exact sns_ret (sndE e sc X y _ x h)
    · cases h
  | .ex e, st, xx, X, d, x, h => by
    simp only [okS] at h
    split at h
    · rename_i y pos hv
      obtain rfl := vExpr_eq hv
      simp only [Bool.and_eq_true] at h
      exact sns_ex (sndE e sc X y _ x h.2) h.1
    · cases h
  | .mat e cs _, st, xx, X, d, x, h => by
    simp only [okS] at h
    split at h
    · rename_i y mcs pos hv
      obtain rfl := vMat_eq hv
      simp only [Bool.and_eq_true] at h
      exact sns_mat (sndE e sc X y _ x h.1) (sndCs cs mcs _ _ d x h.2)
    · cases h
  | .rse, st, xx, X, d, x, h => sns_never
  | .rsx k e, st, xx, X, d, x, h => by
    simp only [okS] at h
    split at h
    · rename_i cn y hv
      obtain ⟨p, pos, pos2, rfl⟩ := vRaise_eq hv
      simp only [Bool.and_eq_true] at h
      obtain ⟨⟨⟨⟨h1, h2⟩, h3⟩, h4⟩, h5⟩ := h
      split at h1
      · rename_i cn' f hk
        obtain rfl := of_decide_eq_true h1
        obtain ⟨C, hT, _, fI, T⟩ := x.exc k _ _ hk
        exact sns_rsx x.calm x.tk hT T x.room (gl_of x.hs h2) (dbg_of h3) (sndE e sc X y _ x h5) h4
      · cases h1
    · cases h
  | .rsp k, st, xx, X, d, x, h => by
    simp only [okS] at h
    split at h
    · rename_i cn y hv
      obtain ⟨p, pos, pos2, rfl⟩ := vRaise_eq hv
      simp only [Bool.and_eq_true] at h
      obtain ⟨⟨⟨h1, h2⟩, h3⟩, h4⟩ := h
      obtain ⟨m, j, p2, rfl⟩ := isStr_eq h4
      split at h1
      · rename_i cn' hk
        obtain rfl := of_decide_eq_true h1
        obtain ⟨C, hT, T⟩ := x.exc k _ _ hk
        exact sns_rsp x.calm x.tk hT T (gl_of x.hs h2) (dbg_of h3)
      · cases h1
    · cases h
  | .try_ b hs, st, xx, X, d, x, h => by
    simp only [okS] at h
    split at h
    · rename_i body cn n1 n2 f hv
      obtain ⟨np, p1, p2, p3, pos', pos, rfl⟩ := vTry_eq hv
      split at h
      · rename_i k i
        simp only [Bool.and_eq_true, decide_eq_true_eq] at h
        obtain ⟨⟨⟨⟨⟨⟨⟨⟨h1, h2⟩, rfl⟩, h4⟩, h5⟩, h6⟩, h7⟩, h8⟩, h9⟩ := h
        split at h1
        · rename_i cn' f' hk
          simp only [Bool.and_eq_true, decide_eq_true_eq] at h1
          obtain ⟨rfl, rfl⟩ := h1
          obtain ⟨C, hT, hh, fI, T⟩ := x.exc k _ _ hk
          have hln : X.env.kindOf n1 = some .local := by
            show X.env.scope.names.lookup n1 = _
            rw [x.hs]
            exact loc_of h4
          refine sns_tryF (m := exSs con F own b) d.stk d.frm x.nd (by rw [x.hN]; exact h2) hln x.tk hT T hh (gl_of x.hs h7) (dbg_of h8) (fun j C' f e => x.exm j k C' C _ _ e hT) (dbg_of h5) (by simpa using h6) (fun W pn xe tk po => ?_)
          exact sndSs b body _ _ ⟨d.kind, d.fn, po, d.stk, d.frm⟩ ⟨x.calm, x.nd, x.hN, x.hs, x.room, x.clen, x.cok, x.free, x.fns, tk_len tk xx.T, x.exc, x.exm⟩ h9
        · cases h1
      · cases h
    · cases h
  | .pass, st, xx, X, d, x, h => by
    simp only [okS] at h
    split at h
    · rename_i hv
      rcases flow_eq hv with ⟨_, rfl⟩ | ⟨z, _⟩ | ⟨z, _⟩ | z
      · exact sns_pass
      all_goals cases z
    · cases h
  | .brk, st, xx, X, d, x, h => by
    simp only [okS] at h
    split at h
    · rename_i hv
      rcases flow_eq hv with ⟨z, _⟩ | ⟨_, rfl⟩ | ⟨z, _⟩ | z
      · cases z
      · exact sns_brk
      all_goals cases z
    · cases h
  | .cnt, st, xx, X, d, x, h => by
    simp only [okS] at h
    split at h
    · rename_i hv
      rcases flow_eq hv with ⟨z, _⟩ | ⟨z, _⟩ | ⟨_, rfl⟩ | z
      · cases z
      · cases z
      · exact sns_cnt
      · cases z
    · cases h
theorem sndSs : ∀ (c : Sts) (st : List Stmt) (xx : XX) (X : Cx), XD X → XF xx G con F n sc X → okSs G own c sc st = true → PSs X st (rdS xx X.K own (exSs con F own c))
  | .nil, st, xx, X, d, x, h => by
    cases st with
    | nil => exact sns_nil
    | cons y ys => simp only [okSs] at h; cases h
  | .cons s r, st, xx, X, d, x, h => by
    cases st with
    | nil => simp only [okSs] at h; cases h
    | cons y ys =>
      simp only [okSs, Bool.and_eq_true] at h
      exact sns_cons (sndS s y _ _ d x h.1) (sndSs r ys _ _ d x h.2)
theorem sndCs : ∀ (c : Cases) (mcs : List MatchCase) (xx : XX) (X : Cx), XD X → XF xx G con F n sc X → okCs G own c sc mcs = true → CsOk xx X own mcs (fun s ρ => exCs con F own c s ρ)
  | .nil, mcs, xx, X, d, x, h => by
    cases mcs with
    | nil => exact cs_nil
    | cons y ys => simp only [okCs] at h; cases h
  | .cons ps b r, mcs, xx, X, d, x, h => by
    simp only [okCs] at h
    split at h
    · rename_i p body rest hv
      obtain rfl := vCase_eq hv
      simp only [Bool.and_eq_true] at h
      exact cs_cons h.1.1 (sndSs b body _ _ d x h.1.2) (sndCs r rest _ _ d x h.2)
    · cases h
end
end
end Ev

/-! Ev12: defs and the table of defs. -/
namespace Ev
open PySem L2 PyProof.Rows

/-- what is known of the module: constants, free names, defs at level n -/
structure GF (T : List (Addr × Option Str)) (exs : List (Str × Option Str)) (P : Program) (w : World) (K : PySem.W.Frag) (mg : Str → Option Value) (base : Heap) (con : List D) (cn : List Str) (fns : List (Str × Nat)) (free : List Str) (F : Nat → List D → M D) (n : Nat) : Prop where
  clen : con.length = cn.length
  cok : ∀ (k : Nat) (x : Str) (d : D), cn[k]? = some x → con[k]? = some d → ∃ v u, mg x = some u ∧ RelV v u ∧ ∀ q A H, Rep K q A H v d
  free : ∀ x ∈ free, mg x = none
  fns : ∀ (f : Nat) (x : Str) (np : Nat), fns[f]? = some (x, np) → ∃ a fd ps, mg x = some (.ref a) ∧ PySem.W.keepIn K (.ref a) = true ∧ Binds K fd ps [] ∧ FnOk P w K mg base (L2.CX P w) n a fd ps (spF T K np (F f))
  exc : ∀ (k : Nat) (cn : Str) (f : Option Str), exs[k]? = some (cn, f) → ∃ C, T[k]? = some (C, f) ∧ XCls P K mg cn f C
  exm : ∀ (j k : Nat) (C C' : Addr) (f f' : Option Str), T[j]? = some (C, f) → T[k]? = some (C', f') → PySem.W.exmOne K (.ref C) (.ref C') = some (j == k)
theorem fn_lift {P : Program} {w : World} {K : PySem.W.Frag} {mg : Str → Option Value} {base : Heap} {k : Nat} {f : Addr} {fd : FuncData} {ps : List Str} {sp : Sp} (F : FnOk P w K mg base CX0 k f fd ps sp) : FnOk P w K mg base (L2.CX P w) k f fd ps sp :=
  ⟨F.len, fun A outer s H args us vs Q E hr he hb hv hs => codeAny_mono (F.run A outer s H args us vs Q E hr he hb hv hs) fun r s' hq => by
    cases r with
    | error e => exact False.elim hq
    | ok fl => cases fl <;> exact hq⟩
section
variable {T : List (Addr × Option Str)} {exs : List (Str × Option Str)} {P : Program} {w : World} {K : PySem.W.Frag} {mg : Str → Option Value} {base : Heap} {con : List D} {cn : List Str} {fns : List (Str × Nat)} {free : List Str} {F : Nat → List D → M D} {n : Nat}
theorem startE_get {nv i : Nat} {ds : List D} {d : D} (h : getV (startE nv ds) i = some d) : ds[i]? = some d := by
  unfold getV startE at h
  by_cases hi : i < ds.length
  · rw [List.getElem?_append_left (by simpa using hi)] at h
    simp only [List.getElem?_map] at h
    rw [List.getElem?_eq_getElem hi] at h ⊢
    exact h
  · rw [List.getElem?_append_right (by simpa using hi)] at h
    rw [List.getElem?_replicate] at h
    split at h <;> cases h
theorem start_get {N : List Str} {i : Nat} {vs : List V} {v : V} (h : vs[i]? = some v) : (L2.start N vs)[i]? = some (some v) := by
  unfold L2.start
  have hi : i < vs.length := (List.getElem?_eq_some_iff.mp h).1
  rw [List.getElem?_append_left (by simpa using hi), List.getElem?_map, h]
  rfl
theorem sim_start {q : Addr} {A : Addr → Prop} {own : List Nat} {N : List Str} {nv : Nat} {H : Hp} {s : S} {vs : List V} {ds : List D} (st : St0 K q A [] [] H s) (r : Reps K q A H vs ds) (hn : N.length = nv) (ho : ∀ i ∈ own, ds.length ≤ i) :
    Sim K H (fun _ => False) q A own (fun _ => none) (L2.start N vs) (startE nv ds) H s := by
  have hA : ∀ a, Aof A (fun _ => none) a → A a := fun a z => z.elim (fun z => z) fun ⟨_, z⟩ => (by cases z)
  refine ⟨st.aq, st.tr, fun _ z => z.elim, fun _ _ _ _ h => h, st.dc, ?_, fun _ _ z => (by cases z), fun _ _ _ z => (by cases z), fun _ _ z => (by cases z), fun i hi d e => ?_, fun i hi d e => ?_⟩
  · unfold L2.start startE
    simp only [List.length_append, List.length_map, List.length_replicate, hn, r.length]
    exact Nat.le_refl _
  · have := startE_get e
    have h1 := (List.getElem?_eq_some_iff.mp this).1
    have h2 := ho i hi
    omega
  · obtain ⟨v, h1, h2⟩ := r.get (startE_get e)
    exact ⟨v, start_get h1, Rep.anti hA d v h2⟩
/-- a def whose code passes the look keeps the promise -/
theorem def_ok {x qual : Str} {params : Arguments} {body : List Stmt} {scope : Scope} {f : Addr} {fd : FuncData} {N ps : List Str} {d : Def} (g : GF T exs P w K mg base con cn fns free F n) (Fd : FunD K x qual params body scope [] [] f fd) (sc : FnScope N ps scope)
    (hp : ps.length = d.np) (hv : N.length = d.nv) (ho : d.own.all (fun i => decide (d.np ≤ i)) = true) (ck : okSs ⟨N, cn, fns, free, exs⟩ d.own d.body scope body = true) :
    FnOk P w K mg base (L2.CX P w) (n + 1) f fd ps (spF T K d.np (runDef con F d)) := by
  refine Fd.ok sc (fun vs H Q E h => ?_) (fun cdv A outer s H vs Q E hr h => ?_)
  · obtain ⟨_, _, _, _, hl, _⟩ := h
    rw [hl, hp]
  · obtain ⟨q, A', ds, s', hl, st, r, post⟩ := h
    let X := cxOf (L2.CX P w) P w K mg base N qual scope f cdv A outer s H E
    have xf : XF ⟨T, E⟩ ⟨N, cn, fns, free, exs⟩ con F n scope X := ⟨rfl, sc.nd, rfl, rfl, hr, g.clen, g.cok, g.free, g.fns, takes_of rfl rfl rfl rfl, g.exc, g.exm⟩
    have xd : XD X := ⟨sc.kind, fun _ => rfl, passes_of rfl, rfl, rfl⟩
    refine ⟨rdS ⟨T, E⟩ K d.own (exSs con F d.own d.body), sndSs d.body body _ _ xd xf ck, H, fun _ => False, q, A', fun _ => none, startE d.nv ds, s', sim_start st r hv (fun i hi => ?_), ?_⟩
    · have := List.all_eq_true.mp ho i hi
      simp only [decide_eq_true_eq] at this
      rw [← r.length, hl]
      exact this
    · unfold runDef at post
      rw [if_pos (by rw [← r.length, hl])] at post
      simp only [M.bind] at post
      cases e : exSs con F d.own d.body (startE d.nv ds) s' with
      | exc _ _ => rw [e] at post; exact fun cls dd H' k d' r' => post cls dd H' (fun a o n1 e1 => k a o n1 (fun z => z) e1) d' r'
      | no => rw [e] at post; exact post
      | ok fl s1 =>
        rw [e] at post
        cases fl with
        | nx ρ' => exact fun ow σ' H' sim => post _ _ (fun a o n1 e1 => sim.keep a o n1 (fun z => z) e1) sim.dc (by rw [rep_non])
        | rt dd => exact fun v H' k d' r' => post _ _ (fun a o n1 e1 => k a o n1 (fun z => z) e1) d' r'
        | bk ρ' => exact post.elim
        | ct ρ' => exact post.elim
/-- a def of the table, as the head tells it -/
structure Known (exs : List (Str × Option Str)) (K : PySem.W.Frag) (mg : Str → Option Value) (cn : List Str) (fns : List (Str × Nat)) (free : List Str) (x : Str) (d : Def) : Prop where
  ex : ∃ (a : Addr) (fd : FuncData) (params : Arguments) (body : List Stmt) (scope : Scope) (N ps : List Str), mg x = some (.ref a) ∧ FunD K x x params body scope [] [] a fd ∧ Binds K fd ps [] ∧ FnScope N ps scope ∧ ps.length = d.np ∧ N.length = d.nv ∧
    d.own.all (fun i => decide (d.np ≤ i)) = true ∧ okSs ⟨N, cn, fns, free, exs⟩ d.own d.body scope body = true
/-- the roll, as the head tells it -/
structure Rolls (T : List (Addr × Option Str)) (P : Program) (w : World) (K : PySem.W.Frag) (mg : Str → Option Value) (base : Heap) (x : Str) : Prop where
  ex : ∃ (a : Addr) (fd : FuncData) (ps : List Str), mg x = some (.ref a) ∧ PySem.W.keepIn K (.ref a) = true ∧ Binds K fd ps [] ∧ FnOk P w K mg base CX0 1 a fd ps (spF T K 2 rollS)
theorem table {fs : List Def} {r : Nat} (clen : con.length = cn.length) (cok : ∀ (k : Nat) (x : Str) (d : D), cn[k]? = some x → con[k]? = some d → ∃ v u, mg x = some u ∧ RelV v u ∧ ∀ q A H, Rep K q A H v d) (hfree : ∀ x ∈ free, mg x = none)
    (known : ∀ (f : Nat) (x : Str) (np : Nat), fns[f]? = some (x, np) → f ≠ r → ∃ d, fs[f]? = some d ∧ d.np = np ∧ Known exs K mg cn fns free x d) (hr : ∀ (x : Str) (np : Nat), fns[r]? = some (x, np) → np = 2 ∧ Rolls T P w K mg base x)
    (exc : ∀ (k : Nat) (cn : Str) (f : Option Str), exs[k]? = some (cn, f) → ∃ C, T[k]? = some (C, f) ∧ XCls P K mg cn f C) (exm : ∀ (j k : Nat) (C C' : Addr) (f f' : Option Str), T[j]? = some (C, f) → T[k]? = some (C', f') → PySem.W.exmOne K (.ref C) (.ref C') = some (j == k)) :
    ∀ n, GF T exs P w K mg base con cn fns free (callD con fs r n) n
  | 0 => by
    refine ⟨clen, cok, hfree, fun f x np h => ?_, exc, exm⟩
    have nope : ∀ vs H Q E, ¬ spF T K np (callD con fs r 0 f) vs H Q E := fun vs H Q E ⟨_, _, _, _, _, _, _, p⟩ => p
    by_cases hf : f = r
    · subst hf
      obtain ⟨rfl, ⟨a, fd, ps, h1, h2, h3, h4⟩⟩ := hr x np h
      exact ⟨a, fd, ps, h1, h2, h3, ⟨fun vs H Q E z => (nope _ _ _ _ z).elim, fun A outer s H args us vs Q E _ _ _ _ z => (nope _ _ _ _ z).elim⟩⟩
    · obtain ⟨d, _, _, ⟨a, fd, params, body, scope, N, ps, h1, h2, h3, _⟩⟩ := known f x np h hf
      exact ⟨a, fd, ps, h1, h2.kp, h3, ⟨fun vs H Q E z => (nope _ _ _ _ z).elim, fun A outer s H args us vs Q E _ _ _ _ z => (nope _ _ _ _ z).elim⟩⟩
  | n + 1 => by
    have ih := table clen cok hfree known hr exc exm n
    refine ⟨clen, cok, hfree, fun f x np h => ?_, exc, exm⟩
    by_cases hf : f = r
    · subst hf
      obtain ⟨rfl, ⟨a, fd, ps, h1, h2, h3, h4⟩⟩ := hr x np h
      have e : callD con fs f (n + 1) f = rollS := by
        funext ds
        rw [callD, if_pos rfl]
      rw [e]
      exact ⟨a, fd, ps, h1, h2, h3, fn_lift (h4.mono (Nat.succ_le_succ (Nat.zero_le _)))⟩
    · obtain ⟨d, hd, rfl, ⟨a, fd, params, body, scope, N, ps, h1, h2, h3, h4, h5, h6, h7, h8⟩⟩ := known f x np h hf
      have e : callD con fs r (n + 1) f = runDef con (callD con fs r n) d := by
        funext ds
        rw [callD, if_neg hf, hd]
      rw [e]
      exact ⟨a, fd, ps, h1, h2.kp, h3, def_ok ih h2 h4 h5 h6 h7 h8⟩
end
end Ev

/-! X2: the look at a class of exceptions. -/
namespace PySem
namespace SupX
open PySem.W PySem.Calls PyProof.Rows PySem.HandSPX
def bodyB (pn : Str) : List Stmt → Bool
  | [.Expr (.Call (.Attribute (.Call (.Name s _) [] [] _) i a2) [.Name p3 _] [] a4) _, .Assign [.Attribute (.Name slf _) f _] (.Name p4 _) _] => decide (s = "super") && decide (i = "__init__") && decide (p3 = pn) && decide (slf = "self") && decide (f = pn) && decide (p4 = pn) && (a2.endLine == a4.line)
  | _ => false
theorem bodyB_ok {pn : Str} {b : List Stmt} (h : bodyB pn b = true) : ∃ a0 a1 a2 a3 a4 a5 b1 b2 b3 b4, (a2.endLine == a4.line) = true ∧ b = iB pn a0 a1 a2 a3 a4 a5 b1 b2 b3 b4 := by
  unfold bodyB at h
  split at h
  · simp only [Bool.and_eq_true, decide_eq_true_eq] at h
    obtain ⟨⟨⟨⟨⟨⟨rfl, rfl⟩, rfl⟩, rfl⟩, rfl⟩, rfl⟩, hl⟩ := h
    exact ⟨_, _, _, _, _, _, _, _, _, _, hl, rfl⟩
  · cases h
def parB (pn : Str) : Arguments → Bool
  | ⟨[], [⟨s, none, _⟩, ⟨p, none, _⟩], none, [], [], none, []⟩ => decide (s = "self") && decide (p = pn)
  | _ => false
theorem parB_ok {pn : Str} {a : Arguments} (h : parB pn a = true) : ∃ p1 p2, a = ⟨[], [⟨"self", none, p1⟩, ⟨pn, none, p2⟩], none, [], [], none, []⟩ := by
  unfold parB at h
  split at h
  · simp only [Bool.and_eq_true, decide_eq_true_eq] at h
    obtain ⟨rfl, rfl⟩ := h
    exact ⟨_, _, rfl⟩
  · cases h
def scB (pn : Str) (sc : Scope) : Bool := decide (sc.names.lookup ("super" : Str) = some .globalImplicit) && decide (sc.names.lookup ("__class__" : Str) = some .free) && decide (sc.names.lookup ("self" : Str) = some .local) && decide (sc.names.lookup pn = some .local)
  && sc.names.all (fun x => decide (x.2 ≠ .cell)) && decide (sc.kind = .function) && !sc.isCoroutine && !sc.isGenerator
def cellB (K : Frag) (C : Addr) : List (Str × Addr) → Bool
  | [(n, cc)] => decide (n = "__class__") && (match K.lookup cc with
    | some ⟨_, _, .cell (some (.ref D)), _⟩ => decide (D = C)
    | _ => false)
  | _ => false
def codeB (P : Program) (K : Frag) (q : Str) : Value → Bool
  | .ref cda => codeIn K (.ref cda) q && (match K.lookup cda with
    | some ⟨_, _, .fields vs, _⟩ => (match (vs[2]? : Option Value) with
      | some (.str file _) => (P.main.file : Str) == file
      | _ => false)
    | _ => false)
  | _ => false
def fnB (P : Program) (K : Frag) (pn : Str) (C fI : Addr) : Bool := match K.lookup fI with
  | some ⟨_, _, .func ⟨nm, q, ps, .stmts b, sc, gl, cl, .none, .none, _, _, _, cd, _, bl⟩, _⟩ => decide (nm = "__init__") && bodyB pn b && parB pn ps && scB pn sc && decide (gl = mainGlobals) && decide (bl = builtinsNs) && cellB K C cl && codeB P K q cd
  | _ => false
def clsB (K : Frag) (C : Addr) : Bool := match K.lookup C with
  | some ⟨.type t, _, .cls ⟨_, _, .ref C' :: bm, _, _, true, _, _, _, _, false⟩, ⟨[_, _, _, _, some (.builtin n), _]⟩⟩ => decide (t = "type") && decide (C' = C) && refsVE bm && decide (n = "ValueError.__new__")
  | _ => false
theorem clsB_ok {K : Frag} {C : Addr} (h : clsB K C = true) : ∃ nm q N bs bm sn sub ab col dd k0 k1 k2 k3 k5, K.lookup C = some (excClassObj nm q C N bs bm true sn sub ab col dd k0 k1 k2 k3 k5 "ValueError.__new__") ∧ refsVE bm = true := by
  unfold clsB at h
  split at h
  · rename_i e
    simp only [Bool.and_eq_true, decide_eq_true_eq] at h
    obtain ⟨⟨⟨rfl, rfl⟩, hb⟩, rfl⟩ := h
    exact ⟨_, _, _, _, _, _, _, _, _, _, _, _, _, _, _, e, hb⟩
  · cases h
def keepNames : List Str := ["value", "index", "most", "asked", "reason"]
theorem bind_ok {pn q : Str} {p1 p2 : Pos} {b : List Stmt} {sc : Scope} {doc pm cdv ct x v : Value} {an : Option Addr} {cc : Addr} (h : pn ∈ keepNames) :
    bindArgs (ksFn "__init__" q ⟨[], [⟨"self", none, p1⟩, ⟨pn, none, p2⟩], none, [], [], none, []⟩ b sc .none .none doc pm an cdv ct cc) ⟨[x, v], []⟩ = pure ([("self", x), (pn, v)] : List (Str × Value)) := by
  simp only [keepNames, List.mem_cons, List.not_mem_nil, or_false] at h
  rcases h with rfl | rfl | rfl | rfl | rfl <;> first | rfl | with_unfolding_all rfl | kernel_rfl
/-- the whole look -/
def supB (P : Program) (K : Frag) (cn pn : Str) (C : Addr) : Bool :=
  decide (nsIn K mainGlobals cn = some (some (.ref C))) && decide (nsIn K mainGlobals "super" = some none) && clsB K C
  && decide (findIn K (.ref C) "__setattr__" = some (some (.builtin "object.__setattr__"))) && decide (findIn K (.ref C) "__getattribute__" = some (some (.builtin "BaseException.__getattribute__"))) && decide (findIn K (.ref C) "__getattr__" = some none)
  && decide (findIn K (.ref C) pn = some none) && keepIn K (.ref C) && decide (subIn K (.ref C) (.type "BaseException") = some true) && decide (subIn K (.ref C) (.type "ValueError") = some true) && decide (typeIn K (.ref C) = some (.type "type"))
  && decide (mroIn K C (.ref C) = some true) && decide (nsIn K cStatics "thirdparty.any" = some none) && decide (ks_superIn K C C "__init__" = some (some (.builtin "ValueError.__init__")))
  && decide (pn ∈ keepNames) && !(("self" : Str) == pn) && !(pn == ("__debug__" : Str)) && !(P.main.scope.names.lookup ("super" : Str)).isSome && hasDictIn K C
  && (match findIn K (.ref C) "__init__" with
    | some (some (.ref fI)) => decide (typeIn K (.ref fI) = some (.type "function")) && fnB P K pn C fI
    | _ => false)
theorem supB_ok {P : Program} {K : Frag} {cn pn : Str} {C : Addr} {h : Heap} {mg : Str → Option Value} (X : K.In h) (G : h.Ns mainGlobals mg) (hb : supB P K cn pn C = true) : hasDictIn K C = true ∧ ∃ fI, SupTxt P K mg cn pn C fI := by
  unfold supB at hb
  simp only [Bool.and_eq_true, decide_eq_true_eq, Bool.not_eq_true'] at hb
  obtain ⟨⟨⟨⟨⟨⟨⟨⟨⟨⟨⟨⟨⟨⟨⟨⟨⟨⟨⟨h1, h2⟩, h3⟩, h4⟩, h5⟩, h6⟩, h7⟩, h8⟩, h9⟩, h10⟩, h11⟩, h12⟩, h13⟩, h14⟩, hkn⟩, h15⟩, h16⟩, h17⟩, h18⟩, h19⟩ := hb
  refine ⟨h18, ?_⟩
  split at h19
  · rename_i fI hi
    simp only [Bool.and_eq_true, decide_eq_true_eq] at h19
    obtain ⟨t1, t2⟩ := h19
    refine ⟨fI, mg_of X G h1, mg_none_of X G h2, clsB_ok h3, h4, h5, h6, h7, hi, t1, h8, h9, h10, h11, h12, h13, h14, h15, h16, h17, ?_⟩
    unfold fnB at t2
    split at t2
    · rename_i e
      simp only [Bool.and_eq_true, decide_eq_true_eq] at t2
      obtain ⟨⟨⟨⟨⟨⟨⟨rfl, u1⟩, u2⟩, u3⟩, rfl⟩, rfl⟩, u6⟩, u7⟩ := t2
      obtain ⟨a0, a1, a2, a3, a4, a5, b1, b2, b3, b4, hl, rfl⟩ := bodyB_ok u1
      obtain ⟨p1, p2, rfl⟩ := parB_ok u2
      unfold scB at u3
      simp only [Bool.and_eq_true, decide_eq_true_eq, Bool.not_eq_true', List.all_eq_true] at u3
      obtain ⟨⟨⟨⟨⟨⟨⟨s1, s2⟩, s3⟩, s4⟩, s5⟩, s6⟩, s7⟩, s8⟩ := u3
      unfold cellB at u6
      split at u6
      · simp only [Bool.and_eq_true, decide_eq_true_eq] at u6
        obtain ⟨rfl, v1⟩ := u6
        split at v1
        · rename_i hcell
          obtain rfl := of_decide_eq_true v1
          unfold codeB at u7
          split at u7
          · rw [Bool.and_eq_true] at u7
            obtain ⟨w1, w2⟩ := u7
            split at w2
            · rename_i hcode
              split at w2
              · rename_i hvs
                exact ⟨_, _, _, _, _, _, _, _, _, _, _, _, a0, a1, a2, a3, a4, a5, b1, b2, b3, b4, hl, _, _, _, _, _, _, _, _, _, _, e, w1, hcell, hcode, hvs, w2, rfl, rfl, (fun s x v => BindsTo.of_eq (bind_ok hkn)), s1, s2, s3, s4, s5, s6, s7, s8⟩
              · cases w2
            · cases w2
          · cases u7
        · cases v1
      · cases u6
    · cases t2
  · cases h19
end SupX
end PySem

/-! Ev13: the head's facts: defs, constants. -/
namespace Ev
open PySem L2 PyProof.Rows
mutual
def repB (K : PySem.W.Frag) : Value → D → Bool
  | u, .non => (match u with
    | .none => true
    | _ => false)
  | u, .bl b => (match u with
    | .bool c => b == c
    | _ => false)
  | u, .int i => (match u with
    | .int j _ => decide (i = j)
    | _ => false)
  | u, .str s => (match u with
    | .str x _ => decide (s = x.cps.toList) && s.all (fun c => decide (c < 1114112))
    | _ => false)
  | u, .tup xs => (match u with
    | .ref a => (match K.lookup a with
      | some ⟨.type c, _, .seq its _, _⟩ => decide (c = "tuple") && decide (its.size ≤ sizeLine) && repsB K its.toList xs
      | _ => false)
    | _ => false)
  | _, _ => false
def repsB (K : PySem.W.Frag) : List Value → List D → Bool
  | us, [] => us.isEmpty
  | us, d :: ds => (match us with
    | u :: us => repB K u d && repsB K us ds
    | [] => false)
end
section
variable {K : PySem.W.Frag}
mutual
theorem repB_ok : ∀ (d : D) (u : Value), repB K u d = true → ∃ v, RelV v u ∧ ∀ q A H, Rep K q A H v d
  | .non, u, h => by
    unfold repB at h
    split at h
    · exact ⟨.non, rfl, fun q A H => by rw [rep_non]⟩
    · cases h
  | .bl b, u, h => by
    unfold repB at h
    split at h
    · rename_i c
      have := eq_of_beq h
      subst this
      exact ⟨.bl b, rfl, fun q A H => by rw [rep_bl]⟩
    · cases h
  | .int i, u, h => by
    unfold repB at h
    split at h
    · rename_i j t
      have := of_decide_eq_true h
      subst this
      exact ⟨.int i, ⟨t, rfl⟩, fun q A H => by rw [rep_int]⟩
    · cases h
  | .str s, u, h => by
    unfold repB at h
    split at h
    · rename_i x t
      rw [Bool.and_eq_true, decide_eq_true_eq] at h
      exact ⟨.str x, ⟨t, rfl⟩, fun q A H => by rw [rep_str, h.1, strOf_of]; exact ⟨rfl, by rw [← h.1]; exact h.2⟩⟩
    · cases h
  | .tup xs, u, h => by
    unfold repB at h
    split at h
    · rename_i a
      split at h
      · rename_i c od its nn sl hl
        simp only [Bool.and_eq_true, decide_eq_true_eq] at h
        obtain ⟨⟨rfl, h2⟩, h3⟩ := h
        obtain ⟨vs, hv, hr⟩ := repsB_ok xs its.toList h3
        refine ⟨.ref a, rfl, fun q A H => ?_⟩
        rw [rep_tup]
        exact ⟨a, vs, rfl, .inr ⟨_, its, nn, hl, rfl, rfl, h2, hv⟩, hr q A H⟩
      · cases h
    · cases h
  | .lst xs, u, h => by unfold repB at h; cases h
  | .dct _ _, u, h => by unfold repB at h; cases h
  | .ty _, u, h => by unfold repB at h; cases h
  | .dice, u, h => by unfold repB at h; cases h
  | .opq _, u, h => by unfold repB at h; cases h
theorem repsB_ok : ∀ (ds : List D) (us : List Value), repsB K us ds = true → ∃ vs, Vals vs us ∧ ∀ q A H, Reps K q A H vs ds
  | [], us, h => by
    unfold repsB at h
    cases us with
    | nil => exact ⟨[], .nil, fun q A H => Reps.nil⟩
    | cons u us => cases h
  | d :: ds, us, h => by
    unfold repsB at h
    split at h
    · rw [Bool.and_eq_true] at h
      obtain ⟨v, h1, h2⟩ := repB_ok d _ h.1
      obtain ⟨vs, h3, h4⟩ := repsB_ok ds _ h.2
      exact ⟨v :: vs, .cons h1 h3, fun q A H => Reps.cons (h2 q A H) (h4 q A H)⟩
    · cases h
end
end
/-- the module's constants -/
def conB (K : PySem.W.Frag) : List Str → List D → Bool
  | [], [] => true
  | x :: xs, d :: ds => (match PySem.W.nsIn K mainGlobals x with
    | some (some u) => repB K u d
    | _ => false) && conB K xs ds
  | _, _ => false
theorem conB_ok {K : PySem.W.Frag} {h : Heap} {mg : Str → Option Value} (X : K.In h) (G : h.Ns mainGlobals mg) : ∀ {cn : List Str} {con : List D}, conB K cn con = true →
    con.length = cn.length ∧ ∀ (k : Nat) (x : Str) (d : D), cn[k]? = some x → con[k]? = some d → ∃ v u, mg x = some u ∧ RelV v u ∧ ∀ q A H, Rep K q A H v d
  | [], [], _ => ⟨rfl, fun k x d e => by simp at e⟩
  | y :: cn, c :: con, h => by
    unfold conB at h
    rw [Bool.and_eq_true] at h
    obtain ⟨l, ih⟩ := conB_ok X G h.2
    refine ⟨by simp [l], fun k x d e1 e2 => ?_⟩
    cases k with
    | zero =>
      simp at e1 e2
      subst e1 e2
      have h1 := h.1
      split at h1
      · rename_i u hu
        obtain ⟨v, r1, r2⟩ := repB_ok c u h1
        exact ⟨v, u, PySem.W.mg_of X G hu, r1, r2⟩
      · cases h1
    | succ k => exact ih k x d (by simpa using e1) (by simpa using e2)
  | [], _ :: _, h => by cases h
  | _ :: _, [], h => by cases h
/-! ### the exceptions -/
def addrOf (K : PySem.W.Frag) (cn : Str) : Addr := match PySem.W.nsIn K mainGlobals cn with
  | some (some (.ref C)) => C
  | _ => 0
def clsOk (P : Program) (K : PySem.W.Frag) (cn : Str) (f : Option Str) : Bool := match f with
  | some pn => PySem.SupX.supB P K cn pn (addrOf K cn)
  | none => decide (PySem.W.nsIn K mainGlobals cn = some (some (.ref (addrOf K cn)))) && PySem.W.excIn K (addrOf K cn) [.type "ValueError", .type "Exception", .type "BaseException", .type "object"] "ValueError.__new__" && PySem.W.keepIn K (.ref (addrOf K cn))
      && decide (PySem.W.subIn K (.ref (addrOf K cn)) (.type "BaseException") = some true) && decide (PySem.W.typeIn K (.ref (addrOf K cn)) = some (.type "type"))
def tabOf (K : PySem.W.Frag) (exs : List (Str × Option Str)) : List (Addr × Option Str) := exs.map fun e => (addrOf K e.1, e.2)
def exmB (K : PySem.W.Frag) (T : List (Addr × Option Str)) : Bool := (List.range T.length).all fun j => (List.range T.length).all fun k => match T[j]?, T[k]? with
  | some (C, _), some (C', _) => decide (PySem.W.exmOne K (.ref C) (.ref C') = some (j == k))
  | _, _ => false
def excB (P : Program) (K : PySem.W.Frag) (exs : List (Str × Option Str)) : Bool := exs.all (fun e => clsOk P K e.1 e.2) && exmB K (tabOf K exs)
theorem excB_ok {P : Program} {K : PySem.W.Frag} {h : Heap} {mg : Str → Option Value} {exs : List (Str × Option Str)} (X : K.In h) (G : h.Ns mainGlobals mg) (hb : excB P K exs = true) :
    (∀ (k : Nat) (cn : Str) (f : Option Str), exs[k]? = some (cn, f) → ∃ C, (tabOf K exs)[k]? = some (C, f) ∧ XCls P K mg cn f C) ∧
    ∀ (j k : Nat) (C C' : Addr) (f f' : Option Str), (tabOf K exs)[j]? = some (C, f) → (tabOf K exs)[k]? = some (C', f') → PySem.W.exmOne K (.ref C) (.ref C') = some (j == k) := by
  unfold excB at hb
  rw [Bool.and_eq_true] at hb
  refine ⟨fun k cn f e => ?_, fun j k C C' f f' e1 e2 => ?_⟩
  · have h1 := List.all_eq_true.mp hb.1 _ (List.mem_of_getElem? e)
    refine ⟨addrOf K cn, ?_, ?_⟩
    · unfold tabOf
      rw [List.getElem?_map, e]
      rfl
    · dsimp only at h1
      unfold clsOk at h1
      cases f with
      | some pn => exact PySem.SupX.supB_ok X G h1
      | none =>
        simp only [Bool.and_eq_true, decide_eq_true_eq] at h1
        exact ⟨PySem.W.mg_of X G h1.1.1.1.1, h1.1.1.1.2, h1.1.1.2, h1.1.2, h1.2⟩
  · have h2 := hb.2
    unfold exmB at h2
    have l1 := (List.getElem?_eq_some_iff.mp e1).1
    have l2 := (List.getElem?_eq_some_iff.mp e2).1
    have h3 := List.all_eq_true.mp (List.all_eq_true.mp h2 j (List.mem_range.mpr l1)) k (List.mem_range.mpr l2)
    rw [e1, e2] at h3
    exact of_decide_eq_true h3
/-! ### the Hook -/
abbrev AlE : Type := He.AlD × Bool
def obsEv (n : Nat) (fa : List He.Fa) (fn : List He.DefD) (ex : PySem.W.Frag → Bool) (g : Addr → Option Obj) : AlE := (He.obsD fa fn (He.frG g (He.asD g n ++ [cStatics])), ex (He.frG g (He.asD g n ++ [cStatics])))
def hookEv (n : Nat) (fa : List He.Fa) (fn : List He.DefD) (ex : PySem.W.Frag → Bool) : PySem.W.Hook where
  α := AlE
  obs := fun s => obsEv n fa fn ex s.heap.get?
  val := fun _ => (He.valD fn, true)
  says := fun _ h => ∃ K : PySem.W.Frag, K.In h ∧ He.SaysD fa fn K ∧ ex K = true
  of := fun _ s e => ⟨He.frG s.heap.get? (He.asD s.heap.get? n ++ [cStatics]), He.frG_in, congrArg (fun z : AlE => z.1) e, congrArg (fun z : AlE => z.2) e⟩
  keeps := fun _ _ _ ⟨K, hK, c⟩ k => ⟨K, PySem.W.Frag.In.keeps hK k, c⟩
theorem obsEv_eq {n : Nat} {fa : List He.Fa} {fn : List He.DefD} {ex : PySem.W.Frag → Bool} {g : Addr → Option Obj} {s : Shared} (h : ∀ a, g a = s.heap.get? a) : obsEv n fa fn ex g = (hookEv n fa fn ex).obs s := by
  have e : g = s.heap.get? := funext h
  rw [e] <;> rfl
/-! ### the table's rows -/
def AllKnown (exs : List (Str × Option Str)) (K : PySem.W.Frag) (mg : Str → Option Value) (cn : List Str) (fns : List (Str × Nat)) (free : List Str) : List (Str × Nat) → List Def → Prop
  | [], [] => True
  | (x, np) :: l, d :: ds => (d.np = np ∧ Known exs K mg cn fns free x d) ∧ AllKnown exs K mg cn fns free l ds
  | _, _ => False
theorem all_known {exs : List (Str × Option Str)} {K : PySem.W.Frag} {mg : Str → Option Value} {cn : List Str} {fns : List (Str × Nat)} {free : List Str} : ∀ {l : List (Str × Nat)} {fs : List Def} {f : Nat} {x : Str} {np : Nat}, AllKnown exs K mg cn fns free l fs → l[f]? = some (x, np) → ∃ d, fs[f]? = some d ∧ d.np = np ∧ Known exs K mg cn fns free x d
  | [], [], f, x, np, _, e => by simp at e
  | (y, m) :: l, d :: ds, 0, x, np, h, e => by
    simp at e
    obtain ⟨rfl, rfl⟩ := e
    exact ⟨d, rfl, h.1.1, h.1.2⟩
  | (y, m) :: l, d :: ds, f + 1, x, np, h, e => by
    obtain ⟨d', h1, h2⟩ := all_known (f := f) h.2 (by simpa using e)
    exact ⟨d', by simpa using h1, h2⟩
  | [], _ :: _, _, _, _, h, _ => h.elim
  | _ :: _, [], _, _, _, h, _ => h.elim
theorem known_of {exs : List (Str × Option Str)} {K : PySem.W.Frag} {mg : Str → Option Value} {cn : List Str} {l : List (Str × Nat)} {rx : Str × Nat} {free : List Str} {fs : List Def} (h : AllKnown exs K mg cn (l ++ [rx]) free l fs) :
    ∀ (f : Nat) (x : Str) (np : Nat), (l ++ [rx])[f]? = some (x, np) → f ≠ l.length → ∃ d, fs[f]? = some d ∧ d.np = np ∧ Known exs K mg cn (l ++ [rx]) free x d := fun f x np e hf => by
  have hl : f < l.length := by
    have := (List.getElem?_eq_some_iff.mp e).1
    simp at this
    omega
  rw [List.getElem?_append_left hl] at e
  exact all_known h e
theorem free_of {K : PySem.W.Frag} {h : Heap} {mg : Str → Option Value} {fa : List He.Fa} {fn : List He.DefD} (X : K.In h) (G : h.Ns mainGlobals mg) (c : He.SaysD fa fn K) {x : Str} (hx : He.Fa.free x ∈ fa) : mg x = none := by
  obtain ⟨i, hi, e⟩ := List.mem_iff_getElem.mp hx
  exact He.free_ok X G (c.fact i (f := .free x) (by rw [List.getElem?_eq_getElem hi, e]))
theorem roll_args {xx : XX} {K : PySem.W.Frag} {q : Addr} {A : Addr → Prop} {H : Hp} {ds : List D} {s : S} {Q : VK} (h : PostE xx K q A H (rollS ds s) Q) : ∃ n, ds = [.dice, .int n] := by
  unfold rollS at h
  split at h
  · exact ⟨_, rfl⟩
  · exact h.elim
theorem roll_b1 (x : Int) : -(2 ^ 64) < x.fmod 2305843009213693951 ∧ x.fmod 2305843009213693951 < 2 ^ 64 := by
  have h1 := Int.fmod_nonneg_of_pos x (b := 2305843009213693951) (by decide)
  have h2 := Int.fmod_lt_of_pos x (b := 2305843009213693951) (by decide)
  omega
/-! ### great powers -/
theorem op_powW {X : Cx} : OpR X (binaryOp .Pow) (rI (fun i j => 0 ≤ j ∧ (Builtin.Int.intBits i : Int) * j ≤ 2 ^ 27) fun i j => .int (i ^ j.toNat)) := opI fun _ _ _ _ _ _ _ hc q => pow_int hc.1 hc.2 q
end Ev

/-! Ev14: the law's own def: a loop over the script's cells, a tail. -/
namespace Ev
open PySem L2 PyProof.Rows
def spDice (K : PySem.W.Frag) : Sp := fun vs H Q _ => ∃ (a : Addr) (ns : List Int) (i : Nat), vs = [.ref a, .int i] ∧ SqL K H a (ns.map V.int) ∧ ∀ p x y, H p = none → Q (.ref p) (upd H p (.lst [.int x, .int y, .int 0]))
def spLaw (K : PySem.W.Frag) : Sp := fun vs H Q _ => ∃ (a : Addr) (ns : List Int), vs = [.ref a] ∧ SqL K H a (ns.map V.int) ∧ ∀ H', Q (.bl true) H'
def lawEnv (nv sa sd : Nat) (a : Addr) (i : Nat) : Env := (((List.replicate nv none).set 0 (some (.opq a))).set sa (some (.int i))).set sd (some .dice)
def forBody : Stmt → List Stmt
  | .For _ _ b _ _ => b
  | _ => []
section
variable {K : PySem.W.Frag}
theorem getV_some {ρ : Env} {i : Nat} {d : D} (h : getV ρ i = some d) : ρ[i]? = some (some d) := by
  unfold getV at h
  cases e : ρ[i]? with
  | none => rw [e] at h; cases h
  | some o =>
    rw [e] at h
    exact congrArg some h
theorem sqL_mono {H H' : Hp} {a : Addr} {xs : List V} (h : SqL K H a xs) (k : ∀ b o, H b = some o → H' b = some o) : SqL K H' a xs := by
  rcases h with (h | h) | h
  · exact .inl (.inl (k _ _ h))
  · obtain ⟨o, h⟩ := h
    exact .inl (.inr ⟨o, k _ _ h⟩)
  · exact .inr h
theorem sqL_upd {H : Hp} {a p : Addr} {xs : List V} {o : HO} (h : SqL K H a xs) (hp : H p = none) : SqL K (upd H p o) a xs := by
  refine sqL_mono h fun b o' e => ?_
  rw [upd_ne (fun z => by subst z; rw [hp] at e; cases e)]
  exact e
theorem lawEnv_cases {nv sa sd : Nat} {a : Addr} {i j : Nat} {d : D} (h : getV (lawEnv nv sa sd a i) j = some d) : j < nv ∧ ((j = sd ∧ d = .dice) ∨ (j ≠ sd ∧ j = sa ∧ d = .int i) ∨ (j ≠ sd ∧ j ≠ sa ∧ j = 0 ∧ d = .opq a)) := by
  have h := getV_some h
  have hj : j < nv := by
    have := (List.getElem?_eq_some_iff.mp h).1
    simpa [lawEnv] using this
  refine ⟨hj, ?_⟩
  unfold lawEnv at h
  by_cases e1 : j = sd
  · subst e1
    rw [List.getElem?_set_self (by simpa using hj)] at h
    cases h
    exact .inl ⟨rfl, rfl⟩
  · rw [List.getElem?_set_ne (Ne.symm e1)] at h
    by_cases e2 : j = sa
    · subst e2
      rw [List.getElem?_set_self (by simpa using hj)] at h
      cases h
      exact .inr (.inl ⟨e1, rfl, rfl⟩)
    · rw [List.getElem?_set_ne (Ne.symm e2)] at h
      by_cases e3 : j = 0
      · subst e3
        rw [List.getElem?_set_self (by simpa using hj)] at h
        cases h
        exact .inr (.inr ⟨e1, e2, rfl, rfl⟩)
      · rw [List.getElem?_set_ne (Ne.symm e3), List.getElem?_replicate] at h
        split at h <;> cases h
theorem sim_law {nv sa sd : Nat} {own : List Nat} {a p : Addr} {i : Nat} {σ : L2.St} {H : Hp} {x y : Int} (hl : nv ≤ σ.length) (h0 : σ[0]? = some (some (.ref a))) (ho : own.all (fun j => decide (j ≠ 0 ∧ j ≠ sa ∧ j ≠ sd)) = true) :
    Sim K (upd H p (.lst [.int x, .int y, .int 0])) (fun _ => False) p (fun b => b = p) own (fun _ => none) ((σ.set sa (some (.int i))).set sd (some (.ref p))) (lawEnv nv sa sd a i) (upd H p (.lst [.int x, .int y, .int 0])) ⟨x, y, 0⟩ := by
  refine ⟨rfl, fun b hb => ⟨_, (congrArg _ hb).trans upd_same⟩, fun _ z => z.elim, fun b o _ _ e => e, upd_same, by simpa [lawEnv] using hl, fun _ _ e => (by cases e), fun _ _ _ e => (by cases e), fun _ _ e => (by cases e), fun j hj d e => ?_, fun j _ d e => ?_⟩
  · have := List.all_eq_true.mp ho j hj
    simp only [decide_eq_true_eq] at this
    obtain ⟨_, c⟩ := lawEnv_cases e
    omega
  · obtain ⟨hj, c⟩ := lawEnv_cases e
    rcases c with ⟨rfl, rfl⟩ | ⟨n1, rfl, rfl⟩ | ⟨n1, n2, rfl, rfl⟩
    · refine ⟨.ref p, by rw [List.getElem?_set_self (by simp; omega)], ?_⟩
      rw [rep_dice]
    · refine ⟨.int i, by rw [List.getElem?_set_ne (Ne.symm n1), List.getElem?_set_self (by omega)], ?_⟩
      rw [rep_int]
    · refine ⟨.ref a, by rw [List.getElem?_set_ne (Ne.symm n1), List.getElem?_set_ne (Ne.symm n2)]; exact h0, ?_⟩
      rw [rep_opq]
theorem sim_tail {nv : Nat} {own : List Nat} {q : Addr} {σ : L2.St} {H : Hp} {s : S} (hl : nv ≤ σ.length) (d : Dc q H s) : Sim K H (fun _ => False) q (fun b => b = q) own (fun _ => none) σ (List.replicate nv none) H s := by
  have no : ∀ (j : Nat) (d : D), getV (List.replicate nv none) j ≠ some d := fun j d e => by
    have e := getV_some e
    rw [List.getElem?_replicate] at e
    split at e <;> cases e
  exact ⟨rfl, fun b hb => ⟨_, (congrArg _ hb).trans d⟩, fun _ z => z.elim, fun b o _ _ e => e, d, by simpa using hl, fun _ _ e => (by cases e), fun _ _ _ e => (by cases e), fun _ _ e => (by cases e), fun j hj d e => (no j d e).elim, fun j _ d e => (no j d e).elim⟩
/-- what the law's def does -/
theorem law_td {con : List D} {F : Nat → List D → M D} {own : List Nat} {B T : Sts} {nv sa sd : Nat} {Kc : Int} {a : Addr} {ns : List Int} {H : Hp} {E : XK} {D0 : Ends} {σ : L2.St}
    (hk : 1 ≤ Kc ∧ Kc < 2 ^ 62) (h0 : 0 < sa ∧ 0 < sd ∧ sa ≠ sd ∧ sa < nv ∧ sd < nv) (ho : own.all (fun j => decide (j ≠ 0 ∧ j ≠ sa ∧ j ≠ sd)) = true)
    (hbody : ∀ (i : Nat) (a : Addr) (s : S), ∃ ρ' s', exSs con F own B (lawEnv nv sa sd a i) s = .ok (.nx ρ') s' ∧ nv ≤ ρ'.length ∧ 0 ∉ own ∧ getV ρ' 0 = some (.opq a))
    (htail : ∀ s : S, ∃ s', exSs con F own T (List.replicate nv none) s = .ok (.rt (.bl true)) s')
    (hl : nv ≤ σ.length) (hz : σ[0]? = some (some (.ref a))) (hS : SqL K H a (ns.map V.int)) (hQ : ∀ H', D0.rt (.bl true) H') :
    tSeq (tFor (iRng1 (tCons (tCB (fun xs H Q => ∃ i j, xs = [.int i, .int j] ∧ Q (.int (if j > i then j else i)) H) (tCons (tC (.int 1)) (tCons (tCB (fun xs H Q => ∃ i j, xs = [.int i, .int j] ∧ Q (.int (if j < i then j else i)) H)
      (tCons (tC (.int Kc)) (tCons (tCB (rLen K) (tCons (tVar 0) tNil)) tNil))) tNil))) tNil)) (gName sa) (tSeq (tAsg (tCall (spDice K) [] E (tCons (tVar 0) (tCons (tVar sa) tNil))) (gName sd)) (rdS xx K own (exSs con F own B))))
      (rdS xx K own (exSs con F own T)) D0 σ H := by
  refine ⟨_, hz, _, _, rfl, .inl ⟨_, hS, rfl⟩, _, _, rfl, _, _, rfl, _, rfl, ?_⟩
  have hb : ∀ m : Int, 1 ≤ (if m > 1 then m else 1) := fun m => by split <;> omega
  have hb2 : ∀ n : Int, (if (if n < Kc then n else Kc) > 1 then (if n < Kc then n else Kc) else 1) < 2 ^ 62 := fun n => by
    have : (1 : Int) < 2 ^ 62 := by decide
    split <;> split <;> omega
  refine ⟨by have := hb (if (((ns.map V.int).length : Nat) : Int) < Kc then (((ns.map V.int).length : Nat) : Int) else Kc); have h2 : -(2 ^ 62 : Int) ≤ 0 := by decide
             omega, hb2 _, ?_⟩
  refine for_range (fun i σ H => nv ≤ σ.length ∧ σ[0]? = some (some (.ref a)) ∧ SqL K H a (ns.map V.int) ∧ (0 < i → ∃ q s, Dc q H s)) ⟨hl, hz, hS, fun z => absurd z (by omega)⟩ (fun i σ H hi ⟨p1, p2, p3, p4⟩ => ?_) (fun σ H ⟨p1, p2, p3, p4⟩ => ?_)
  · rw [Int.zero_add]
    have g0 : (σ.set sa (some (.int i)))[0]? = some (some (.ref a)) := by rw [List.getElem?_set_ne (by omega)]; exact p2
    refine ⟨_, g0, _, by rw [List.getElem?_set_self (by omega)], a, ns, i, rfl, p3, fun p x y hp => ?_⟩
    refine ⟨_, _, p, _, _, lawEnv nv sa sd a i, ⟨x, y, 0⟩, sim_law p1 p2 ho, ?_⟩
    obtain ⟨ρ', s', e, l, n0, g⟩ := hbody i a ⟨x, y, 0⟩
    rw [e]
    intro ow σ' H' sim
    obtain ⟨v, hv, r⟩ := sim.fsl 0 n0 _ g
    rw [rep_opq] at r
    subst r
    refine ⟨Nat.le_trans l sim.ln, hv, ?_, fun _ => ⟨_, _, sim.dc⟩⟩
    have hap : ∀ o, H a = some o → a ≠ p := fun o e z => by subst z; rw [hp] at e; cases e
    refine sqL_mono p3 fun b o e => ?_
    have hbp : b ≠ p := fun z => by subst z; rw [hp] at e; cases e
    exact sim.keep b o hbp (fun z => z) (by rw [upd_ne hbp]; exact e)
  · obtain ⟨q, s, d⟩ := p4 (by have := hb (if (((ns.map V.int).length : Nat) : Int) < Kc then (((ns.map V.int).length : Nat) : Int) else Kc)
                               omega)
    refine ⟨_, _, q, _, _, List.replicate nv none, s, sim_tail p1 d, ?_⟩
    obtain ⟨s', e⟩ := htail s
    rw [e]
    intro v H' _ _ r
    rw [rep_bl] at r
    subst r
    exact hQ H'
end
end Ev

/-! Ev15: words on what the evaluator gives, for every state of the dice. -/
namespace Ev
open PySem
/-- m ends well, and its value is as P says -/
def W {α : Type} (m : M α) (P : α → Prop) : Prop := ∀ s, ∃ a s', m s = .ok a s' ∧ P a
section
variable {α β : Type} {m : M α} {P : α → Prop} {f : α → M β} {Q : β → Prop}
theorem W.ret {a : α} (h : P a) : W (M.ret a) P := fun s => ⟨a, s, rfl, h⟩
theorem W.mono {P' : α → Prop} (h : W m P) (i : ∀ a, P a → P' a) : W m P' := fun s => by
  obtain ⟨a, s', e, p⟩ := h s
  exact ⟨a, s', e, i a p⟩
theorem W.bind (h : W m P) (g : ∀ a, P a → W (f a) Q) : W (M.bind m f) Q := fun s => by
  obtain ⟨a, s', e, p⟩ := h s
  obtain ⟨b, s2, e2, q⟩ := g a p s'
  refine ⟨b, s2, ?_, q⟩
  simp only [M.bind, e, e2]
theorem W.calm (h : W m P) : W (M.calm m) P := fun s => by
  obtain ⟨a, s', e, p⟩ := h s
  exact ⟨a, s', by simp only [M.calm, e], p⟩
theorem W.bindE {a : α} (h : W m (fun x => x = a)) (g : W (f a) Q) : W (M.bind m f) Q := h.bind fun b e => by rw [e]; exact g
theorem bret {a : α} : M.bind (M.ret a) f = f a := rfl
theorem opt_some {a : α} : M.opt (some a) = M.ret a := rfl
theorem calm_ret {a : α} : M.calm (M.ret a) = M.ret a := rfl
theorem bind_ite {c : Prop} [Decidable c] {m n : M α} : M.bind (if c then m else n) f = if c then M.bind m f else M.bind n f := by split <;> rfl
theorem W.ite {c : Prop} [Decidable c] {m n : M α} (h : c → W m P) (h' : ¬ c → W n P) : W (if c then m else n) P := by
  by_cases e : c
  · rw [if_pos e]; exact h e
  · rw [if_neg e]; exact h' e
end
/-- a for -/
theorem W_for {b : D → Env → Option Env} {body : Env → M Fl} {Q : Fl → Prop} (xs : List D) (Inv : Nat → Env → Prop)
    (h : ∀ i x ρ, xs[i]? = some x → Inv i ρ → ∃ ρ1, b x ρ = some ρ1 ∧ W (body ρ1) (fun f => match f with
      | .nx ρ2 => Inv (i + 1) ρ2
      | .ct ρ2 => Inv (i + 1) ρ2
      | .rt d => Q (.rt d)
      | .bk ρ2 => Q (.nx ρ2))) (hd : ∀ ρ, Inv xs.length ρ → Q (.nx ρ)) :
    ∀ (k : Nat) (ys : List D) (ρ : Env), ys = xs.drop k → k ≤ xs.length → Inv k ρ → W (forD b body ys ρ) Q
  | k, [], ρ, e, hk, hi => by
    have : xs.length = k := by
      have := congrArg List.length e
      simp at this
      omega
    unfold forD
    exact W.ret (hd ρ (this ▸ hi))
  | k, y :: ys, ρ, e, hk, hi => by
    have hy : xs[k]? = some y := by
      have : (xs.drop k)[0]? = some y := by rw [← e]; rfl
      simpa using this
    have hlt := (List.getElem?_eq_some_iff.mp hy).1
    obtain ⟨ρ1, e1, w⟩ := h k y ρ hy hi
    unfold forD
    rw [e1]
    refine w.bind fun f hf => ?_
    have e2 : ys = xs.drop (k + 1) := by
      have := congrArg List.tail e
      simpa using this
    cases f with
    | nx ρ2 => exact W_for xs Inv h hd (k + 1) ys ρ2 e2 hlt hf
    | ct ρ2 => exact W_for xs Inv h hd (k + 1) ys ρ2 e2 hlt hf
    | rt d => exact W.ret hf
    | bk ρ2 => exact W.ret hf
/-- a while -/
theorem W_whl {t : Env → M Bool} {body : Env → M Fl} {Q : Fl → Prop} (Inv : Nat → Env → Prop)
    (h : ∀ m ρ, Inv m ρ → W (t ρ) (fun k => if k = true then W (body ρ) (fun f => match f with
      | .nx ρ2 => ∃ m', m' < m ∧ Inv m' ρ2
      | .ct ρ2 => ∃ m', m' < m ∧ Inv m' ρ2
      | .rt d => Q (.rt d)
      | .bk ρ2 => Q (.nx ρ2)) else Q (.nx ρ))) : ∀ (n m : Nat) (ρ : Env), m < n → Inv m ρ → W (whlD t body n ρ) Q
  | 0, m, ρ, hm, hi => by omega
  | n + 1, m, ρ, hm, hi => by
    unfold whlD
    refine (h m ρ hi).bind fun k hk => ?_
    cases k with
    | false => exact W.ret hk
    | true =>
      refine W.bind hk fun f hf => ?_
      cases f with
      | nx ρ2 =>
        obtain ⟨m', l, hf⟩ := hf
        exact W_whl Inv h n m' ρ2 (by omega) hf
      | ct ρ2 =>
        obtain ⟨m', l, hf⟩ := hf
        exact W_whl Inv h n m' ρ2 (by omega) hf
      | rt d => exact W.ret hf
      | bk ρ2 => exact W.ret hf
/-- two lists side by side -/
inductive All2 {α β : Type} (R : α → β → Prop) : List α → List β → Prop
  | nil : All2 R [] []
  | cons {a b as bs} : R a b → All2 R as bs → All2 R (a :: as) (b :: bs)
theorem All2.length {α β : Type} {R : α → β → Prop} {xs : List α} {ys : List β} (h : All2 R xs ys) : xs.length = ys.length := by
  induction h with
  | nil => rfl
  | cons _ _ ih => simp [ih]
theorem All2.map {α β : Type} {g : α → β} {xs : List α} {ys : List β} (h : All2 (fun x y => y = g x) xs ys) : ys = xs.map g := by
  induction h with
  | nil => rfl
  | cons h _ ih => simp [ih, h]
/-- a comprehension without a test -/
theorem W_comp {b : D → Option Env} {t : Env → M Bool} {e : Env → M D} (R : D → D → Prop) : ∀ (xs acc : List D), xs.length + acc.length ≤ lim →
    (∀ x ∈ xs, ∃ ρ, b x = some ρ ∧ t ρ = M.ret true ∧ W (e ρ) (R x)) → W (compD b t e xs acc) (fun ds => ∃ ys, ds = acc ++ ys ∧ All2 R xs ys)
  | [], acc, _, _ => by
    unfold compD
    exact W.ret ⟨[], by simp, .nil⟩
  | x :: xs, acc, hl, h => by
    obtain ⟨ρ, e1, e2, w⟩ := h x (List.mem_cons_self ..)
    unfold compD
    rw [e1]
    simp only [e2, bret, if_true]
    rw [if_pos (by simp at hl; omega)]
    refine w.bind fun d hd => ?_
    refine (W_comp R xs (acc ++ [d]) (by simp at hl ⊢; omega) fun y hy => h y (List.mem_cons_of_mem _ hy)).mono ?_
    rintro ds ⟨ys, rfl, a⟩
    exact ⟨d :: ys, by simp, .cons hd a⟩
theorem W_compE {b : D → Option Env} {t : Env → M Bool} {e : Env → M D} (g : D → D) {xs : List D} (hl : xs.length ≤ lim)
    (h : ∀ x ∈ xs, ∃ ρ, b x = some ρ ∧ t ρ = M.ret true ∧ W (e ρ) (fun d => d = g x)) : W (compD b t e xs []) (fun ds => ds = xs.map g) :=
  (W_comp (fun x d => d = g x) xs [] (by simpa using hl) h).mono fun ds ⟨ys, e, a⟩ => by rw [e, List.nil_append]; exact a.map
/-- a call of a def -/
theorem W_call {con : List D} {fs : List Def} {r n f : Nat} {d : Def} {ds : List D} {P : D → Prop} (hf : fs[f]? = some d) (hr : f ≠ r) (hl : ds.length = d.np)
    (h : W (exSs con (callD con fs r n) d.own d.body (startE d.nv ds)) (fun fl => match fl with
      | .rt x => P x
      | .nx _ => P .non
      | _ => False)) : W (callD con fs r (n + 1) f ds) P := by
  rw [callD, if_neg hr, hf]
  show W (runDef con (callD con fs r n) d ds) P
  unfold runDef
  rw [if_pos hl]
  refine h.bind fun fl hfl => ?_
  cases fl with
  | rt x => exact W.ret hfl
  | nx _ => exact W.ret hfl
  | bk _ => exact hfl.elim
  | ct _ => exact hfl.elim
abbrev thenS (con : List D) (F : Nat → List D → M D) (own : List Nat) (r : Sts) (Q : Fl → Prop) : Fl → Prop := fun fl => match fl with
  | .nx ρ' => W (exSs con F own r ρ') Q
  | .rt d => Q (.rt d)
  | .bk ρ' => Q (.bk ρ')
  | .ct ρ' => Q (.ct ρ')
/-- a block's statements -/
theorem W_cons {con : List D} {F : Nat → List D → M D} {own : List Nat} {st : St} {r : Sts} {ρ : Env} {Q : Fl → Prop} (h : W (exS con F own st ρ) (thenS con F own r Q)) : W (exSs con F own (.cons st r) ρ) Q := by
  rw [exSs]
  refine h.bind fun fl hfl => ?_
  cases fl with
  | nx ρ' => exact hfl
  | rt d => exact W.ret hfl
  | bk ρ' => exact W.ret hfl
  | ct ρ' => exact W.ret hfl
section
variable {con : List D} {F : Nat → List D → M D} {own : List Nat} {r : Sts} {ρ : Env} {Q : Fl → Prop}
theorem W_ret {α : Type} {a : α} {P : α → Prop} : W (M.ret a) P ↔ P a := ⟨fun h => by
  obtain ⟨b, s', e, p⟩ := h ⟨0, 0, 0⟩
  cases e
  exact p, W.ret⟩
theorem W_nil (h : Q (.nx ρ)) : W (exSs con F own .nil ρ) Q := by
  rw [exSs]
  exact W.ret h
theorem W_set {i : Nat} {e : C} {m : Bool} (h : W (evM con F own e m ρ) fun d => W (exSs con F own r (ρ.set i (some d))) Q) : W (exSs con F own (.cons (.set i e m) r) ρ) Q := by
  refine W_cons ?_
  rw [exS]
  exact h.bind fun d hd => W.ret hd
theorem W_unp {is : List Nat} {e : C} {m : Bool} (h : W (evM con F own e m ρ) fun d => ∃ ds ρ', d = .tup ds ∧ setAll is ds ρ = some ρ' ∧ W (exSs con F own r ρ') Q) : W (exSs con F own (.cons (.unp is e m) r) ρ) Q := by
  refine W_cons ?_
  rw [exS]
  refine h.bind fun d hd => ?_
  obtain ⟨ds, ρ', rfl, e, w⟩ := hd
  simp only [e, opt_some, bret]
  exact W.ret w
theorem W_par {is : List Nat} {es : Cs} {m : Bool} (h : W (evMs con F own es m ρ) fun ds => ∃ ρ', setAll is ds ρ = some ρ' ∧ W (exSs con F own r ρ') Q) : W (exSs con F own (.cons (.par is es m) r) ρ) Q := by
  refine W_cons ?_
  rw [exS]
  refine h.bind fun d hd => ?_
  obtain ⟨ρ', e, w⟩ := hd
  simp only [e, opt_some, bret]
  exact W.ret w
theorem W_newL {i : Nat} {es : Cs} (h : W (evEs con F es (mask own ρ)) fun ds => ds.length ≤ lim ∧ W (exSs con F own r (ρ.set i (some (.lst ds)))) Q) : W (exSs con F own (.cons (.newL i es) r) ρ) Q := by
  refine W_cons ?_
  rw [exS]
  refine h.bind fun d hd => ?_
  rw [if_pos hd.1]
  exact W.ret hd.2
theorem W_parL {i j : Nat} {e : C} (h : W (evE con F e (mask own ρ)) fun d => W (exSs con F own r ((ρ.set i (some (.lst []))).set j (some d))) Q) : W (exSs con F own (.cons (.parL i j e) r) ρ) Q := by
  refine W_cons ?_
  rw [exS]
  exact h.bind fun d hd => W.ret hd
theorem W_app {i : Nat} {e : C} (h : W (evE con F e (mask own ρ)) fun d => ∃ xs, getV ρ i = some (.lst xs) ∧ xs.length < lim ∧ W (exSs con F own r (ρ.set i (some (.lst (xs ++ [d]))))) Q) : W (exSs con F own (.cons (.app i e) r) ρ) Q := by
  refine W_cons ?_
  rw [exS]
  refine h.calm.bind fun d hd => ?_
  obtain ⟨xs, e, l, w⟩ := hd
  simp only [e, if_pos l]
  exact W.ret w
theorem W_ifs {t : C} {a b : Sts} (h : W (evE con F t ρ) fun x => ∃ k, truthD x = some k ∧ (k = true → W (exSs con F own a ρ) (thenS con F own r Q)) ∧ (k = false → W (exSs con F own b ρ) (thenS con F own r Q))) : W (exSs con F own (.cons (.ifs t a b) r) ρ) Q := by
  refine W_cons ?_
  rw [exS]
  refine h.bind fun d hd => ?_
  obtain ⟨k, e, w1, w2⟩ := hd
  simp only [e, opt_some, bret]
  cases k with
  | true => exact (w1 rfl)
  | false => exact (w2 rfl)
theorem W_then {t : C} {a b : Sts} (h : W (evE con F t ρ) fun x => x = .bl true) (h2 : W (exSs con F own a ρ) (thenS con F own r Q)) : W (exSs con F own (.cons (.ifs t a b) r) ρ) Q :=
  W_ifs (h.mono fun x e => ⟨true, by rw [e]; rfl, fun _ => h2, fun z => by cases z⟩)
theorem W_else {t : C} {a b : Sts} (h : W (evE con F t ρ) fun x => x = .bl false) (h2 : W (exSs con F own b ρ) (thenS con F own r Q)) : W (exSs con F own (.cons (.ifs t a b) r) ρ) Q :=
  W_ifs (h.mono fun x e => ⟨false, by rw [e]; rfl, fun z => (by cases z), fun _ => h2⟩)
theorem W_skip {t : C} {a : Sts} (h : W (evE con F t ρ) fun x => x = .bl false) (h2 : W (exSs con F own r ρ) Q) : W (exSs con F own (.cons (.ifs t a .nil) r) ρ) Q :=
  W_else h (W_nil h2)
theorem W_and {a b : C} {P : D → Prop} (k : Bool) (h : W (evE con F a ρ) fun x => x = .bl k) (h1 : k = true → W (evE con F b ρ) P) (h2 : k = false → P (.bl false)) : W (evE con F (.and_ a b) ρ) P := by
  rw [evE]
  refine h.bind fun x e => ?_
  subst e
  cases k with
  | true => exact h1 rfl
  | false => exact W.ret (h2 rfl)
theorem W_or {a b : C} {P : D → Prop} (k : Bool) (h : W (evE con F a ρ) fun x => x = .bl k) (h1 : k = false → W (evE con F b ρ) P) (h2 : k = true → P (.bl true)) : W (evE con F (.or_ a b) ρ) P := by
  rw [evE]
  refine h.bind fun x e => ?_
  subst e
  cases k with
  | false => exact h1 rfl
  | true => exact W.ret (h2 rfl)
theorem W_one {a : C} {P : D → Prop} (h : W (evE con F a ρ) P) : W (evE con F (.one a) ρ) P := by
  rw [evE]
  exact h
theorem W_not {a : C} {P : D → Prop} (h : W (evE con F a ρ) fun x => ∃ k, x = .bl k ∧ P (.bl (!k))) : W (evE con F (.not_ a) ρ) P := by
  rw [evE]
  refine h.bind fun x e => ?_
  obtain ⟨k, rfl, p⟩ := e
  exact W.ret p
theorem W_cal {f : Nat} {es : Cs} {ds : List D} {P : D → Prop} (h : evEs con F es ρ = M.ret ds) (h2 : W (F f ds) P) : W (evE con F (.call f es) ρ) P := by
  rw [evE, h]
  exact h2
theorem W_fors {tg : Tg} {it : It} {b : Sts} (h : W (evIt con F it (mask own ρ)) fun xs => W (forD (bindT tg) (fun ρ' => exSs con F own b ρ') xs ρ) (thenS con F own r Q)) : W (exSs con F own (.cons (.for_ tg it b) r) ρ) Q := by
  refine W_cons ?_
  rw [exS]
  refine h.bind fun d hd => hd
theorem W_whls {t : C} {b : Sts} (h : W (whlD (fun ρ' => M.bind (evE con F t ρ') fun x => M.opt (truthD x)) (fun ρ' => exSs con F own b ρ') fuel ρ) (thenS con F own r Q)) : W (exSs con F own (.cons (.whl t b) r) ρ) Q := by
  refine W_cons ?_
  rw [exS]
  exact h
theorem W_rets {e : C} (h : W (evE con F e ρ) fun d => Q (.rt d)) : W (exSs con F own (.cons (.ret e) r) ρ) Q := by
  refine W_cons ?_
  rw [exS]
  exact h.bind fun d hd => W.ret hd
theorem W_exs {e : C} (h : W (evE con F e ρ) fun d => W (exSs con F own r ρ) Q) : W (exSs con F own (.cons (.ex e) r) ρ) Q := by
  refine W_cons ?_
  rw [exS]
  exact h.bind fun d hd => W.ret hd
theorem W_brk (h : Q (.bk ρ)) : W (exSs con F own (.cons .brk r) ρ) Q := by
  refine W_cons ?_
  rw [exS]
  exact W.ret h
theorem W_cnt (h : Q (.ct ρ)) : W (exSs con F own (.cons .cnt r) ρ) Q := by
  refine W_cons ?_
  rw [exS]
  exact W.ret h
theorem W_pass (h : W (exSs con F own r ρ) Q) : W (exSs con F own (.cons .pass r) ρ) Q := by
  refine W_cons ?_
  rw [exS]
  exact W.ret h
end
/-- a roll -/
theorem W_roll {con : List D} {fs : List Def} {r n : Nat} {k : Int} (h1 : 1 ≤ k) (h2 : k ≤ 1000000) : W (callD con fs r (n + 1) r [.dice, .int k]) (fun d => ∃ j : Nat, (j : Int) < k ∧ d = .int j) := by
  intro s
  rw [callD, if_pos rfl]
  show ∃ a s', rollD k s = .ok a s' ∧ _
  unfold rollD
  rw [if_neg (by omega)]
  have key : ∀ i : Int, ∃ j : Nat, (j : Int) < k ∧ D.int (i.fmod k) = .int j := fun i => by
    have a1 := Int.fmod_nonneg_of_pos i (show 0 < k by omega)
    have a2 := Int.fmod_lt_of_pos i (show 0 < k by omega)
    exact ⟨(i.fmod k).toNat, by omega, by rw [Int.toNat_of_nonneg a1]⟩
  split
  · exact ⟨_, _, rfl, key _⟩
  · exact ⟨_, _, rfl, key _⟩
end Ev

/-! Ev16: the operators, for simp. -/
namespace Ev
open PySem
section
variable {con : List D} {F : Nat → List D → M D} {own : List Nat} {ρ : Env} {P : D → Prop}
theorem W_es0 {P : List D → Prop} (h : P []) : W (evEs con F .nil ρ) P := by
  rw [evEs]
  exact W.ret h
theorem W_es {e : C} {es : Cs} {P : List D → Prop} (h : W (evE con F e ρ) fun x => W (evEs con F es ρ) fun xs => P (x :: xs)) : W (evEs con F (.cons e es) ρ) P := by
  rw [evEs]
  exact h.bind fun x hx => hx.bind fun xs hxs => W.ret hxs
theorem W_es1 {e : C} {P : List D → Prop} (h : W (evE con F e ρ) fun x => P [x]) : W (evEs con F (.cons e .nil) ρ) P := W_es (h.mono fun x hx => W_es0 hx)
theorem W_bi {f : Bi} {es : Cs} (h : W (evEs con F es ρ) fun ds => ∃ d, biD f ds = some d ∧ P d) : W (evE con F (.bi f es) ρ) P := by
  rw [evE]
  refine h.bind fun ds hd => ?_
  obtain ⟨d, e, p⟩ := hd
  rw [e]
  exact W.ret p
theorem W_mt {m : Mt} {o : C} {es : Cs} (h : W (evE con F o ρ) fun x => W (evEs con F es ρ) fun ds => ∃ d, mtD m x ds = some d ∧ P d) : W (evE con F (.mt m o es) ρ) P := by
  rw [evE]
  refine h.bind fun x hx => hx.calm.bind fun ds hd => ?_
  obtain ⟨d, e, p⟩ := hd
  rw [e]
  exact W.ret p
theorem W_bin {o : Operator} {a b : C} (h : W (evE con F a ρ) fun x => W (evE con F b ρ) fun y => ∃ d, binD o x y = some d ∧ P d) : W (evE con F (.bin o a b) ρ) P := by
  rw [evE]
  refine h.bind fun x hx => hx.bind fun ds hd => ?_
  obtain ⟨d, e, p⟩ := hd
  rw [e]
  exact W.ret p
theorem W_cmp {o : CmpOp} {a b : C} (h : W (evE con F a ρ) fun x => W (evE con F b ρ) fun y => ∃ d, cmpD o x y = some d ∧ P (.bl d)) : W (evE con F (.cmp o a b) ρ) P := by
  rw [evE]
  refine h.bind fun x hx => hx.bind fun ds hd => ?_
  obtain ⟨d, e, p⟩ := hd
  rw [e]
  exact W.ret p
theorem W_ix {a b : C} (h : W (evE con F a ρ) fun x => W (evE con F b ρ) fun y => ∃ d, ixD x y = some d ∧ P d) : W (evE con F (.ix a b) ρ) P := by
  rw [evE]
  refine h.bind fun x hx => hx.bind fun ds hd => ?_
  obtain ⟨d, e, p⟩ := hd
  rw [e]
  exact W.ret p
theorem W_tup {es : Cs} (h : W (evEs con F es ρ) fun ds => ds.length ≤ lim ∧ P (.tup ds)) : W (evE con F (.tup es) ρ) P := by
  rw [evE]
  refine h.bind fun ds hd => ?_
  rw [if_pos hd.1]
  exact W.ret hd.2
theorem W_lst {es : Cs} (h : W (evEs con F es ρ) fun ds => ds.length ≤ lim ∧ P (.lst ds)) : W (evE con F (.lst es) ρ) P := by
  rw [evE]
  refine h.bind fun ds hd => ?_
  rw [if_pos hd.1]
  exact W.ret hd.2
theorem W_v {i : Nat} {d : D} (e : getV ρ i = some d) (h : P d) : W (evE con F (.v i) ρ) P := by
  rw [evE, e]
  exact W.ret h
theorem W_c {d : D} (h : P d) : W (evE con F (.c d) ρ) P := by
  rw [evE]
  exact W.ret h
theorem W_g {k : Nat} {d : D} (e : con[k]? = some d) (h : P d) : W (evE con F (.g k) ρ) P := by
  rw [evE, e]
  exact W.ret h
theorem W_callX {f : Nat} {es : Cs} (h : W (evEs con F es ρ) fun ds => W (F f ds) P) : W (evE con F (.call f es) ρ) P := by
  rw [evE]
  exact h.bind fun ds hd => hd
theorem W_ite {t a b : C} (h : W (evE con F t ρ) fun x => ∃ k, truthD x = some k ∧ (k = true → W (evE con F a ρ) P) ∧ (k = false → W (evE con F b ρ) P)) : W (evE con F (.ite t a b) ρ) P := by
  rw [evE]
  refine h.bind fun x hx => ?_
  obtain ⟨k, e, h1, h2⟩ := hx
  rw [e]
  cases k with
  | true => exact h1 rfl
  | false => exact h2 rfl
theorem W_evM {e : C} {P : D → Prop} (h : W (evE con F e (mask own ρ)) P) : W (evM con F own e false ρ) P := h
theorem W_evMs {es : Cs} {P : List D → Prop} (h : W (evEs con F es (mask own ρ)) P) : W (evMs con F own es false ρ) P := h
theorem W_compR {e : C} {tg : Tg} {it : It} (R : D → D → Prop) (h : W (evIt con F it ρ) fun xs => xs.length ≤ lim ∧ (∀ x ∈ xs, ∃ ρ', bindT tg x (wipeE ρ own) = some ρ' ∧ W (evE con F e ρ') (R x)) ∧ ∀ ys, All2 R xs ys → P (.lst ys)) : W (evE con F (.comp e tg it .none own) ρ) P := by
  rw [evE]
  refine h.bind fun xs hx => ?_
  obtain ⟨hl, hs, hp⟩ := hx
  refine (W_comp R xs [] (by simpa using hl) fun x hx => ?_).calm.bind fun ds hd => ?_
  · obtain ⟨ρ', e1, w⟩ := hs x hx
    exact ⟨ρ', e1, by rw [evCt], w⟩
  · obtain ⟨ys, e, a⟩ := hd
    rw [List.nil_append] at e
    subst e
    exact W.ret (hp _ a)
theorem W_compG {e : C} {tg : Tg} {it : It} (g : D → D) (h : W (evIt con F it ρ) fun xs => xs.length ≤ lim ∧ (∀ x ∈ xs, ∃ ρ', bindT tg x (wipeE ρ own) = some ρ' ∧ W (evE con F e ρ') (fun d => d = g x)) ∧ P (.lst (xs.map g))) : W (evE con F (.comp e tg it .none own) ρ) P :=
  W_compR (fun x d => d = g x) (h.mono fun xs ⟨h1, h2, h3⟩ => ⟨h1, h2, fun ys a => by rw [a.map]; exact h3⟩)
theorem W_compFs {b : D → Option Env} {t : Env → M Bool} {e : Env → M D} (q : D → Bool) (R : D → D → Prop) : ∀ (xs acc : List D), xs.length + acc.length ≤ lim →
    (∀ x ∈ xs, ∃ ρ, b x = some ρ ∧ W (t ρ) (fun k => k = q x) ∧ (q x = true → W (e ρ) (R x))) → W (compD b t e xs acc) (fun ds => ∃ ys, ds = acc ++ ys ∧ All2 R (xs.filter q) ys)
  | [], acc, _, _ => by
    unfold compD
    exact W.ret ⟨[], by simp, .nil⟩
  | x :: xs, acc, hl, h => by
    obtain ⟨ρ, e1, wt, w⟩ := h x (List.mem_cons_self ..)
    unfold compD
    rw [e1]
    refine W.bindE wt ?_
    cases hq : q x with
    | false =>
      rw [if_neg Bool.false_ne_true, List.filter_cons_of_neg (by rw [hq]; exact Bool.false_ne_true)]
      exact W_compFs q R xs acc (by simp at hl; omega) fun y hy => h y (List.mem_cons_of_mem _ hy)
    | true =>
      rw [if_pos rfl, if_pos (by simp at hl; omega), List.filter_cons_of_pos hq]
      refine (w hq).bind fun d hd => ?_
      refine (W_compFs q R xs (acc ++ [d]) (by simp at hl ⊢; omega) fun y hy => h y (List.mem_cons_of_mem _ hy)).mono ?_
      rintro ds ⟨ys, rfl, a⟩
      exact ⟨d :: ys, by simp, .cons hd a⟩
theorem W_ct {e : C} {P : Bool → Prop} (h : W (evE con F e ρ) fun x => ∃ k, truthD x = some k ∧ P k) : W (evCt con F (.some e) ρ) P := by
  rw [evCt]
  refine h.bind fun x hx => ?_
  obtain ⟨k, e, p⟩ := hx
  rw [e]
  exact W.ret p
theorem W_compFR {e t : C} {tg : Tg} {it : It} (q : D → Bool) (R : D → D → Prop) (h : W (evIt con F it ρ) fun xs => xs.length ≤ lim ∧ (∀ x ∈ xs, ∃ ρ', bindT tg x (wipeE ρ own) = some ρ' ∧ W (evE con F t ρ') (fun d => d = .bl (q x)) ∧ (q x = true → W (evE con F e ρ') (R x))) ∧ ∀ ys, All2 R (xs.filter q) ys → P (.lst ys)) : W (evE con F (.comp e tg it (.some t) own) ρ) P := by
  rw [evE]
  refine h.bind fun xs hx => ?_
  obtain ⟨hl, hs, hp⟩ := hx
  refine (W_compFs q R xs [] (by simpa using hl) fun x hx => ?_).calm.bind fun ds hd => ?_
  · obtain ⟨ρ', e1, wt, w⟩ := hs x hx
    exact ⟨ρ', e1, W_ct (wt.mono fun d hd => ⟨q x, by rw [hd]; rfl, rfl⟩), w⟩
  · obtain ⟨ys, e, a⟩ := hd
    rw [List.nil_append] at e
    subst e
    exact W.ret (hp _ a)
theorem W_compFG {e t : C} {tg : Tg} {it : It} (q : D → Bool) (g : D → D) (h : W (evIt con F it ρ) fun xs => xs.length ≤ lim ∧ (∀ x ∈ xs, ∃ ρ', bindT tg x (wipeE ρ own) = some ρ' ∧ W (evE con F t ρ') (fun d => d = .bl (q x)) ∧ (q x = true → W (evE con F e ρ') (fun d => d = g x))) ∧ P (.lst ((xs.filter q).map g))) : W (evE con F (.comp e tg it (.some t) own) ρ) P :=
  W_compFR q (fun x d => d = g x) (h.mono fun xs ⟨h1, h2, h3⟩ => ⟨h1, h2, fun ys a => by rw [a.map]; exact h3⟩)
theorem W_chn {o p : CmpOp} {a b c : C} (h : W (evE con F a ρ) fun x => W (evE con F b ρ) fun y => ∃ k, cmpD o x y = some k ∧ (k = true → W (evE con F c ρ) fun z => ∃ d, cmpD p y z = some d ∧ P (.bl d)) ∧ (k = false → P (.bl false))) : W (evE con F (.chn o p a b c) ρ) P := by
  rw [evE]
  refine h.bind fun x hx => hx.bind fun y hy => ?_
  obtain ⟨k, e, h1, h2⟩ := hy
  rw [e]
  cases k with
  | false => exact W.ret (h2 rfl)
  | true =>
    refine (h1 rfl).bind fun z hz => ?_
    obtain ⟨d, e2, p2⟩ := hz
    rw [e2]
    exact W.ret p2
theorem W_mats {e : C} {cs : Cases} {l : List Nat} {r : Sts} {Q : Fl → Prop} (h : W (evE con F e ρ) fun x => ∃ s, x = .str s ∧ W (exCs con F own cs s ρ) (thenS con F own r Q)) : W (exSs con F own (.cons (.mat e cs l) r) ρ) Q := by
  refine W_cons ?_
  rw [exS]
  refine h.bind fun x hx => ?_
  obtain ⟨s, rfl, w⟩ := hx
  exact w
theorem W_hit {ps : List (List Nat)} {b : Sts} {cs : Cases} {s : List Nat} {Q : Fl → Prop} (h : ps.any (· == s) = true) (w : W (exSs con F own b ρ) Q) : W (exCs con F own (.cons ps b cs) s ρ) Q := by
  rw [exCs, if_pos h]
  exact w
theorem W_miss {ps : List (List Nat)} {b : Sts} {cs : Cases} {s : List Nat} {Q : Fl → Prop} (h : ps.any (· == s) = false) (w : W (exCs con F own cs s ρ) Q) : W (exCs con F own (.cons ps b cs) s ρ) Q := by
  rw [exCs, if_neg (by rw [h]; exact Bool.false_ne_true)]
  exact w
theorem W_noCase {s : List Nat} {Q : Fl → Prop} (h : Q (.nx ρ)) : W (exCs con F own .nil s ρ) Q := by
  rw [exCs]
  exact W.ret h
theorem W_sl {a : C} {lo hi : Co} (h : W (evE con F a ρ) fun x => W (evCo con F lo ρ) fun l => W (evCo con F hi ρ) fun u => ∃ d, slD x l u = some d ∧ P d) : W (evE con F (.sl a lo hi) ρ) P := by
  rw [evE]
  refine h.bind fun x hx => hx.bind fun l hl => hl.bind fun u hu => ?_
  obtain ⟨d, e, p⟩ := hu
  rw [e]
  exact W.ret p
theorem W_co0 {P : Option Int → Prop} (h : P none) : W (evCo con F .none ρ) P := by
  rw [evCo]
  exact W.ret h
theorem W_co {e : C} {P : Option Int → Prop} (h : W (evE con F e ρ) fun x => ∃ i, x = .int i ∧ P (some i)) : W (evCo con F (.some e) ρ) P := by
  rw [evCo]
  refine h.bind fun x hx => ?_
  obtain ⟨i, rfl, p⟩ := hx
  exact W.ret p
theorem W_neg {a : C} (h : W (evE con F a ρ) fun x => ∃ i, x = .int i ∧ P (.int (-i))) : W (evE con F (.neg a) ρ) P := by
  rw [evE]
  refine h.bind fun x hx => ?_
  obtain ⟨i, rfl, p⟩ := hx
  exact W.ret p
theorem W_seq {a : C} {P : List D → Prop} (h : W (evE con F a ρ) fun x => ∃ xs, itemsD x = some xs ∧ P xs) : W (evIt con F (.seq a) ρ) P := by
  rw [evIt]
  refine h.bind fun x hx => ?_
  obtain ⟨xs, e, p⟩ := hx
  rw [e]
  exact W.ret p
theorem W_enum {a : C} {P : List D → Prop} (h : W (evE con F a ρ) fun x => ∃ xs, enumOk x = some xs ∧ P (enumD xs)) : W (evIt con F (.enum a) ρ) P := by
  rw [evIt]
  refine h.bind fun x hx => ?_
  obtain ⟨xs, e, p⟩ := hx
  rw [e]
  exact W.ret p
theorem W_rng {a : C} {P : List D → Prop} (h : W (evE con F a ρ) fun x => ∃ n : Nat, x = .int n ∧ n < 1000000 ∧ P (rangeD 0 n)) : W (evIt con F (.rng a) ρ) P := by
  rw [evIt]
  refine h.bind fun x hx => ?_
  obtain ⟨n, rfl, hn, p⟩ := hx
  have c1 := decide_eq_true (show (-1000000 : Int) < n by omega)
  have c2 := decide_eq_true (show (n : Int) < 1000000 by omega)
  simp -implicitDefEqProofs only [intOf, opt_some, bret, c1, c2, Bool.and_true, if_true, Int.toNat_natCast]
  exact W.ret p
end
theorem leS {a b : Nat} (h : a ≤ b) : cmpD .LtE (.str [a]) (.str [b]) = some true := by
  have : ¬ ([b] : List Nat) < [a] := by
    rw [List.cons_lt_cons_iff]
    simp
    omega
  simp only [cmpD, ordD, Option.map_some]
  rw [if_neg this]
  split <;> rfl
theorem truth_bl {b : Bool} : truthD (.bl b) = some b := rfl
theorem lim3 : (3 : Nat) ≤ lim := by decide
theorem len_str {s : List Nat} (h : s.length ≤ lim) : biD .len [.str s] = some (.int s.length) := by
  show (if _ then _ else _) = _
  rw [if_pos h]
theorem len_tup {s : List D} : biD .len [.tup s] = some (.int s.length) := rfl
theorem len_lst {s : List D} : biD .len [.lst s] = some (.int s.length) := rfl
theorem atI_app {α : Type} {p z : List α} {c : α} : L2.atI (p ++ c :: z) (p.length : Int) = some c := L2.atI_nat (by simp)
theorem ix_at {s p z : List Nat} {c : Nat} (h : s.length ≤ lim) (e : s = p ++ c :: z) : ixD (.str s) (.int (p.length : Int)) = some (.str [c]) := by
  show (if _ then _ else _) = _
  rw [if_pos h, e, atI_app]
  rfl
theorem cmp_lt {i j : Int} : cmpD .Lt (.int i) (.int j) = some (decide (i < j)) := by
  by_cases h : i < j
  · simp [cmpD, ordD, h]
  · by_cases h2 : j < i
    · simp [cmpD, ordD, h, h2]
    · simp [cmpD, ordD, h, h2]
theorem cmp_gt {i j : Int} : cmpD .Gt (.int i) (.int j) = some (decide (i > j)) := by
  by_cases h : i < j
  · have : ¬ j < i := by omega
    simp [cmpD, ordD, h, this]
  · by_cases h2 : j < i
    · simp [cmpD, ordD, h, h2]
    · simp [cmpD, ordD, h, h2]
theorem cmp_le {i j : Int} : cmpD .LtE (.int i) (.int j) = some (decide (i ≤ j)) := by
  by_cases h : i < j
  · have : i ≤ j := by omega
    simp [cmpD, ordD, h, this]
  · by_cases h2 : j < i
    · have : ¬ i ≤ j := by omega
      simp [cmpD, ordD, h, h2, this]
    · have : i ≤ j := by omega
      simp [cmpD, ordD, h, h2, this]
theorem cmp_eqS {a b : List Nat} : cmpD .Eq (.str a) (.str b) = some (a == b) := by simp [cmpD, okD, eqD]
theorem cmp_neS {a b : List Nat} : cmpD .NotEq (.str a) (.str b) = some (!(a == b)) := by simp [cmpD, okD, eqD]
theorem cmp_eqI {a b : Int} : cmpD .Eq (.int a) (.int b) = some (a == b) := by simp [cmpD, okD, eqD]
theorem cmp_neI {a b : Int} : cmpD .NotEq (.int a) (.int b) = some (!(a == b)) := by simp [cmpD, okD, eqD]
theorem cmp_eqB {a b : Bool} : cmpD .Eq (.bl a) (.bl b) = some (a == b) := by simp [cmpD, okD, eqD]
theorem cmp_neB {a b : Bool} : cmpD .NotEq (.bl a) (.bl b) = some (!(a == b)) := by simp [cmpD, okD, eqD]
theorem cmp_in {c : Nat} {z : List Nat} : cmpD .In (.str [c]) (.str z) = some (decide (c ∈ z)) := rfl
theorem cmp_nin {c : Nat} {z : List Nat} : cmpD .NotIn (.str [c]) (.str z) = some (!decide (c ∈ z)) := rfl
theorem beq_flip {k c : Nat} : (k == c) = decide (c = k) := by
  by_cases h : c = k
  · simp [h]
  · have : ¬ k = c := fun z => h z.symm
    simp [h, this]
theorem add_int {i j : Int} : binD .Add (.int i) (.int j) = some (.int (i + j)) := rfl
theorem sub_int {i j : Int} : binD .Sub (.int i) (.int j) = some (.int (i - j)) := rfl
theorem add_str {a b : List Nat} (h : a.length + b.length ≤ lim) : binD .Add (.str a) (.str b) = some (.str (a ++ b)) := by
  show (if _ then _ else _) = _
  rw [if_pos h]
theorem mul_str {a : List Nat} {j : Nat} (h : a.length * j ≤ lim) (h2 : j < 1000000) : binD .Mult (.str a) (.int j) = some (.str (List.replicate j a).flatten) := by
  have c : (decide ((j : Int) < 1000000) && decide ((-1000000 : Int) < j) && decide (a.length * (j : Int).toNat ≤ lim)) = true := by
    rw [decide_eq_true (show (j : Int) < 1000000 by omega), decide_eq_true (show (-1000000 : Int) < j by omega), decide_eq_true (show a.length * (j : Int).toNat ≤ lim from h)]
    rfl
  simp only [binD]
  rw [if_pos c]
  rfl
theorem isi_str {s : List Nat} : biD .isi [.str s, .ty "str"] = some (.bl true) := rfl
theorem isi_tup {s : List D} : biD .isi [.tup s, .ty "tuple"] = some (.bl true) := rfl
theorem items_str {s : List Nat} : itemsD (.str s) = some (s.map fun c => .str [c]) := rfl
theorem items_tup {s : List D} : itemsD (.tup s) = some s := rfl
theorem items_lst {s : List D} : itemsD (.lst s) = some s := rfl
theorem enum_str {s : List Nat} : enumOk (.str s) = some (s.map fun c => .str [c]) := rfl
theorem lt_at {s p z : List Nat} {c : Nat} (e : s = p ++ c :: z) : decide ((p.length : Int) < (s.length : Nat)) = true := by
  subst e
  simp
  omega
theorem eq_at {s p z : List Nat} {c : Nat} (e : s = p ++ c :: z) : ((p.length : Int) == (s.length : Nat)) = false := by
  subst e
  simp
  omega
theorem lt_end {s : List Nat} : decide ((s.length : Int) < (s.length : Nat)) = false := by simp
theorem snoc_len {p : List Nat} {c : Nat} : (p.length : Int) + 1 = ((p ++ [c]).length : Nat) := by simp
theorem all_bools {bs : List Bool} : biD .all_ [.lst (bs.map .bl)] = some (.bl (bs.all id)) := by
  have : boolsOf (bs.map .bl) = some bs := by
    induction bs with
    | nil => rfl
    | cons b bs ih => simp [boolsOf, ih]
  show (boolsOf _).map _ = _
  rw [this]
  rfl
theorem strsOf_map {zs : List (List Nat)} : strsOf (zs.map .str) = some zs := by
  induction zs with
  | nil => rfl
  | cons z zs ih => simp [strsOf, ih]
theorem join_str {s : List Nat} {zs : List (List Nat)} (h : (zs.map List.length).sum + zs.length * s.length ≤ lim) : mtD .join (.str s) [.lst (zs.map .str)] = some (.str (joinL s zs)) := by
  show (strsOf _).bind _ = _
  rw [strsOf_map]
  show (if _ then _ else _) = _
  rw [if_pos h]
end Ev

/-! Ev17: loops and comprehensions over encoded lists; equality of equal data. -/
namespace Ev
open PySem
section
variable {con : List D} {F : Nat → List D → M D} {own : List Nat} {ρ : Env} {P : D → Prop} {α : Type}
theorem W_val {e : C} {d : D} (h : evE con F e ρ = M.ret d) (p : P d) : W (evE con F e ρ) P := by
  rw [h]
  exact W.ret p
theorem W.to {m : M α} {a : α} {Q : α → Prop} (h : W m (fun x => x = a)) (p : Q a) : W m Q := h.mono fun x e => by rw [e]; exact p
theorem W_of {m : M α} {a : α} {Q : α → Prop} (h : ∀ s, m s = .ok a s) (p : Q a) : W m Q := fun s => ⟨a, s, h s, p⟩
theorem W_compTs {enc : α → D} {b : D → Option Env} {t : Env → M Bool} {e : Env → M D} (q : α → Bool) (g : α → D) : ∀ (xs : List α) (acc : List D), xs.length + acc.length ≤ lim →
    (∀ a ∈ xs, ∃ ρ, b (enc a) = some ρ ∧ W (t ρ) (fun k => k = q a) ∧ (q a = true → W (e ρ) (fun d => d = g a))) → W (compD b t e (xs.map enc) acc) (fun ds => ds = acc ++ (xs.filter q).map g)
  | [], acc, _, _ => by
    rw [List.map_nil]
    unfold compD
    exact W.ret (by simp)
  | x :: xs, acc, hl, h => by
    obtain ⟨ρ, e1, wt, w⟩ := h x (List.mem_cons_self ..)
    rw [List.map_cons]
    unfold compD
    rw [e1]
    refine W.bindE wt ?_
    cases hq : q x with
    | false =>
      rw [if_neg Bool.false_ne_true, List.filter_cons_of_neg (by rw [hq]; exact Bool.false_ne_true)]
      exact W_compTs q g xs acc (by simp at hl; omega) fun y hy => h y (List.mem_cons_of_mem _ hy)
    | true =>
      rw [if_pos rfl, if_pos (by simp at hl; omega), List.filter_cons_of_pos hq]
      refine (w hq).bind fun d hd => ?_
      subst hd
      refine (W_compTs q g xs (acc ++ [g x]) (by simp at hl ⊢; omega) fun y hy => h y (List.mem_cons_of_mem _ hy)).mono ?_
      rintro ds rfl
      simp
/-- [e for x in xs if t] over encoded items -/
theorem W_compTF {e t : C} {tg : Tg} {it : It} (enc : α → D) (xs : List α) (q : α → Bool) (g : α → D) (h : W (evIt con F it ρ) fun ds => ds = xs.map enc) (hl : xs.length ≤ lim)
    (hs : ∀ a ∈ xs, ∃ ρ', bindT tg (enc a) (wipeE ρ own) = some ρ' ∧ W (evE con F t ρ') (fun d => d = .bl (q a)) ∧ (q a = true → W (evE con F e ρ') (fun d => d = g a))) (p : P (.lst ((xs.filter q).map g))) : W (evE con F (.comp e tg it (.some t) own) ρ) P := by
  rw [evE]
  refine h.bind fun ds hd => ?_
  subst hd
  refine (W_compTs q g xs [] (by simpa using hl) fun x hx => ?_).calm.bind fun ds hd => ?_
  · obtain ⟨ρ', e1, wt, w⟩ := hs x hx
    exact ⟨ρ', e1, W_ct (wt.mono fun d hd => ⟨q x, by rw [hd]; rfl, rfl⟩), w⟩
  · rw [List.nil_append] at hd
    subst hd
    exact W.ret p
/-- [e for x in xs] over encoded items -/
theorem W_compTG {e : C} {tg : Tg} {it : It} (enc : α → D) (xs : List α) (g : α → D) (h : W (evIt con F it ρ) fun ds => ds = xs.map enc) (hl : xs.length ≤ lim)
    (hs : ∀ a ∈ xs, ∃ ρ', bindT tg (enc a) (wipeE ρ own) = some ρ' ∧ W (evE con F e ρ') (fun d => d = g a)) (p : P (.lst (xs.map g))) : W (evE con F (.comp e tg it .none own) ρ) P := by
  rw [evE]
  refine h.bind fun ds hd => ?_
  subst hd
  refine (W_compTs (fun _ => true) g xs [] (by simpa using hl) fun x hx => ?_).calm.bind fun ds hd => ?_
  · obtain ⟨ρ', e1, w⟩ := hs x hx
    exact ⟨ρ', e1, by rw [evCt]; exact W.ret rfl, fun _ => w⟩
  · rw [List.nil_append, List.filter_eq_self.mpr (fun _ _ => rfl)] at hd
    subst hd
    exact W.ret p
/-- a for over encoded items: what holds behind the items p -/
theorem W_forT {b : D → Env → Option Env} {body : Env → M Fl} {Q : Fl → Prop} (enc : α → D) (xs : List α) (Inv : List α → Env → Prop)
    (h : ∀ p a r ρ, xs = p ++ a :: r → Inv p ρ → ∃ ρ1, b (enc a) ρ = some ρ1 ∧ W (body ρ1) (fun f => match f with
      | .nx ρ2 => Inv (p ++ [a]) ρ2
      | .ct ρ2 => Inv (p ++ [a]) ρ2
      | .rt d => Q (.rt d)
      | .bk ρ2 => Q (.nx ρ2))) (hd : ∀ ρ, Inv xs ρ → Q (.nx ρ)) (h0 : Inv [] ρ) : W (forD b body (xs.map enc) ρ) Q := by
  have key : ∀ (r p : List α) (ρ : Env), xs = p ++ r → Inv p ρ → W (forD b body (r.map enc) ρ) Q := by
    intro r
    induction r with
    | nil =>
      intro p ρ e hi
      rw [List.append_nil] at e
      subst e
      rw [List.map_nil]
      unfold forD
      exact W.ret (hd ρ hi)
    | cons a r ih =>
      intro p ρ e hi
      obtain ⟨ρ1, e1, w⟩ := h p a r ρ e hi
      rw [List.map_cons]
      unfold forD
      rw [e1]
      refine w.bind fun f hf => ?_
      have e2 : xs = (p ++ [a]) ++ r := by rw [e]; simp
      cases f with
      | nx ρ2 => exact ih (p ++ [a]) ρ2 e2 hf
      | ct ρ2 => exact ih (p ++ [a]) ρ2 e2 hf
      | rt d => exact W.ret hf
      | bk ρ2 => exact W.ret hf
  exact key xs [] ρ rfl h0
end
mutual
theorem eqD_refl : ∀ (n : Nat) (x : D), okD n x = true → eqD x x = true
  | _, .non, _ => rfl
  | _, .bl b, _ => by rw [eqD]; simp
  | _, .int i, _ => by rw [eqD]; simp
  | _, .str s, _ => by rw [eqD]; simp
  | n + 1, .lst xs, h => by
    rw [okD] at h
    rw [eqD]
    exact eqDs_refl n xs h
  | n + 1, .tup xs, h => by
    rw [okD] at h
    rw [eqD]
    exact eqDs_refl n xs h
  | 0, .lst xs, h => by simp [okD] at h
  | 0, .tup xs, h => by simp [okD] at h
  | n, .dct _ _, h => by cases n <;> simp [okD] at h
  | n, .ty _, h => by cases n <;> simp [okD] at h
  | n, .dice, h => by cases n <;> simp [okD] at h
  | n, .opq _, h => by cases n <;> simp [okD] at h
theorem eqDs_refl : ∀ (n : Nat) (xs : List D), okDs n xs = true → eqDs xs xs = true
  | _, [], _ => rfl
  | n, x :: xs, h => by
    rw [okDs, Bool.and_eq_true] at h
    rw [eqDs, eqD_refl n x h.1, eqDs_refl n xs h.2]
    rfl
end
theorem ne_self {x : D} (h : okD 60 x = true) : cmpD .NotEq x x = some false := by
  rw [cmpD, h, eqD_refl 60 x h]
  rfl
theorem eq_self {x : D} (h : okD 60 x = true) : cmpD .Eq x x = some true := by
  rw [cmpD, h, eqD_refl 60 x h]
  rfl
theorem okDs_all {n : Nat} : ∀ {xs : List D}, (∀ x ∈ xs, okD n x = true) → okDs n xs = true
  | [], _ => rfl
  | x :: xs, h => by rw [okDs, h x (List.mem_cons_self ..), okDs_all fun y hy => h y (List.mem_cons_of_mem _ hy)]; rfl
theorem okD_str {n : Nat} {s : List Nat} : okD n (.str s) = true := by cases n <;> rfl
theorem okDs_strs {n : Nat} {zs : List (List Nat)} : okDs n (zs.map .str) = true := okDs_all fun x hx => by
  obtain ⟨z, _, rfl⟩ := List.mem_map.mp hx
  exact okD_str
theorem cmp_ge {i j : Int} : cmpD .GtE (.int i) (.int j) = some (decide (i ≥ j)) := by
  by_cases h : i < j
  · have : ¬ i ≥ j := by omega
    simp [cmpD, ordD, h, this]
  · by_cases h2 : j < i
    · have : i ≥ j := by omega
      simp [cmpD, ordD, h, h2, this]
    · have : i ≥ j := by omega
      simp [cmpD, ordD, h, h2, this]
theorem W_out {α : Type} {m : M α} {P : α → Prop} (h : W m P) (s : S) : ∃ a s', m s = .ok a s' ∧ P a := h s
end Ev

/-! Ev18: words on what may raise. -/
namespace Ev
open PySem
/-- m ends well as P says, or raises as E says -/
def WE {α : Type} (m : M α) (P : α → Prop) (E : Ex → Prop) : Prop := ∀ s, (∃ a s', m s = .ok a s' ∧ P a) ∨ ∃ x s', m s = .exc x s' ∧ E x
section
variable {α β : Type} {m : M α} {P : α → Prop} {E : Ex → Prop} {f : α → M β} {Q : β → Prop}
theorem W.e (h : W m P) : WE m P E := fun s => .inl (h s)
theorem WE.ret {a : α} (h : P a) : WE (M.ret a) P E := fun s => .inl ⟨a, s, rfl, h⟩
theorem WE.exc {x : Ex} (h : E x) : WE (fun s => .exc x s : M α) P E := fun s => .inr ⟨x, s, rfl, h⟩
theorem WE.mono {P' : α → Prop} (h : WE m P E) (i : ∀ a, P a → P' a) : WE m P' E := fun s => by
  rcases h s with ⟨a, s', e, p⟩ | ⟨x, s', e, p⟩
  · exact .inl ⟨a, s', e, i a p⟩
  · exact .inr ⟨x, s', e, p⟩
theorem WE.bind (h : WE m P E) (g : ∀ a, P a → WE (f a) Q E) : WE (M.bind m f) Q E := fun s => by
  rcases h s with ⟨a, s', e, p⟩ | ⟨x, s', e, p⟩
  · simp only [M.bind, e]
    exact g a p s'
  · exact .inr ⟨x, s', by simp only [M.bind, e], p⟩
end
section
variable {con : List D} {F : Nat → List D → M D} {own : List Nat} {r : Sts} {ρ : Env} {Q : Fl → Prop} {P : D → Prop} {E : Ex → Prop}
theorem WE_callX {f : Nat} {es : Cs} (h : WE (evEs con F es ρ) (fun ds => WE (F f ds) P E) E) : WE (evE con F (.call f es) ρ) P E := by
  rw [evE]
  exact h.bind fun ds hd => hd
abbrev thenE (con : List D) (F : Nat → List D → M D) (own : List Nat) (r : Sts) (Q : Fl → Prop) (E : Ex → Prop) : Fl → Prop := fun fl => match fl with
  | .nx ρ' => WE (exSs con F own r ρ') Q E
  | .rt d => Q (.rt d)
  | .bk ρ' => Q (.bk ρ')
  | .ct ρ' => Q (.ct ρ')
theorem WE_cons {st : St} (h : WE (exS con F own st ρ) (thenE con F own r Q E) E) : WE (exSs con F own (.cons st r) ρ) Q E := by
  rw [exSs]
  refine h.bind fun fl hfl => ?_
  cases fl with
  | nx ρ' => exact hfl
  | rt d => exact WE.ret hfl
  | bk ρ' => exact WE.ret hfl
  | ct ρ' => exact WE.ret hfl
theorem WE_nil (h : Q (.nx ρ)) : WE (exSs con F own .nil ρ) Q E := by
  rw [exSs]
  exact WE.ret h
theorem WE_set {i : Nat} {e : C} {m : Bool} (h : WE (evM con F own e m ρ) (fun d => WE (exSs con F own r (ρ.set i (some d))) Q E) E) : WE (exSs con F own (.cons (.set i e m) r) ρ) Q E := by
  refine WE_cons ?_
  rw [exS]
  exact h.bind fun d hd => WE.ret hd
theorem WE_unp {is : List Nat} {e : C} {m : Bool} (h : WE (evM con F own e m ρ) (fun d => ∃ ds ρ', d = .tup ds ∧ setAll is ds ρ = some ρ' ∧ WE (exSs con F own r ρ') Q E) E) : WE (exSs con F own (.cons (.unp is e m) r) ρ) Q E := by
  refine WE_cons ?_
  rw [exS]
  refine h.bind fun d hd => ?_
  obtain ⟨ds, ρ', rfl, e, w⟩ := hd
  simp only [e, opt_some, bret]
  exact WE.ret w
theorem WE_par {is : List Nat} {es : Cs} {m : Bool} (h : WE (evMs con F own es m ρ) (fun ds => ∃ ρ', setAll is ds ρ = some ρ' ∧ WE (exSs con F own r ρ') Q E) E) : WE (exSs con F own (.cons (.par is es m) r) ρ) Q E := by
  refine WE_cons ?_
  rw [exS]
  refine h.bind fun d hd => ?_
  obtain ⟨ρ', e, w⟩ := hd
  simp only [e, opt_some, bret]
  exact WE.ret w
theorem WE_parL {i j : Nat} {e : C} (h : WE (evE con F e (mask own ρ)) (fun d => WE (exSs con F own r ((ρ.set i (some (.lst []))).set j (some d))) Q E) E) : WE (exSs con F own (.cons (.parL i j e) r) ρ) Q E := by
  refine WE_cons ?_
  rw [exS]
  exact h.bind fun d hd => WE.ret hd
theorem WE_app {i : Nat} {e : C} (h : W (evE con F e (mask own ρ)) fun d => ∃ xs, getV ρ i = some (.lst xs) ∧ xs.length < lim ∧ WE (exSs con F own r (ρ.set i (some (.lst (xs ++ [d]))))) Q E) : WE (exSs con F own (.cons (.app i e) r) ρ) Q E := by
  refine WE_cons ?_
  rw [exS]
  refine (h.calm).e.bind fun d hd => ?_
  obtain ⟨xs, e, l, w⟩ := hd
  simp only [e, if_pos l]
  exact WE.ret w
theorem WE_then {t : C} {a b : Sts} (h : W (evE con F t ρ) fun x => x = .bl true) (h2 : WE (exSs con F own a ρ) (thenE con F own r Q E) E) : WE (exSs con F own (.cons (.ifs t a b) r) ρ) Q E := by
  refine WE_cons ?_
  rw [exS]
  refine (h.e (E := E)).bind fun x hx => ?_
  subst hx
  exact h2
theorem WE_skip {t : C} {a : Sts} (h : W (evE con F t ρ) fun x => x = .bl false) (h2 : WE (exSs con F own r ρ) Q E) : WE (exSs con F own (.cons (.ifs t a .nil) r) ρ) Q E := by
  refine WE_cons ?_
  rw [exS]
  refine (h.e (E := E)).bind fun x hx => ?_
  subst hx
  exact WE_nil (con := con) (F := F) (own := own) h2
theorem WE_else {t : C} {a b : Sts} (h : W (evE con F t ρ) fun x => x = .bl false) (h2 : WE (exSs con F own b ρ) (thenE con F own r Q E) E) : WE (exSs con F own (.cons (.ifs t a b) r) ρ) Q E := by
  refine WE_cons ?_
  rw [exS]
  refine (h.e (E := E)).bind fun x hx => ?_
  subst hx
  exact h2
theorem WE_rets {e : C} (h : WE (evE con F e ρ) (fun d => Q (.rt d)) E) : WE (exSs con F own (.cons (.ret e) r) ρ) Q E := by
  refine WE_cons ?_
  rw [exS]
  exact h.bind fun d hd => WE.ret hd
theorem WE_callW {f : Nat} {es : Cs} (h : W (evEs con F es ρ) (fun ds => WE (F f ds) P E)) : WE (evE con F (.call f es) ρ) P E := WE_callX h.e
theorem W_parR {i j : Nat} {e : C} (h : W (evE con F e (mask own ρ)) fun d => W (exSs con F own r ((ρ.set i (some d)).set j (some (.lst [])))) Q) : W (exSs con F own (.cons (.parR i j e) r) ρ) Q := by
  refine W_cons ?_
  rw [exS]
  exact h.bind fun d hd => W.ret hd
theorem WE_ite {t a b : C} (h : W (evE con F t ρ) fun x => ∃ k, truthD x = some k ∧ (k = true → WE (evE con F a ρ) P E) ∧ (k = false → WE (evE con F b ρ) P E)) : WE (evE con F (.ite t a b) ρ) P E := by
  rw [evE]
  refine (h.e (E := E)).bind fun x hx => ?_
  obtain ⟨k, e, h1, h2⟩ := hx
  rw [e]
  cases k with
  | true => exact h1 rfl
  | false => exact h2 rfl
theorem WE_evM {e : C} (h : WE (evE con F e (mask own ρ)) P E) : WE (evM con F own e false ρ) P E := h
theorem WE_retW {e : C} (h : W (evE con F e ρ) fun d => Q (.rt d)) : WE (exSs con F own (.cons (.ret e) r) ρ) Q E := WE_rets h.e
theorem WE_setW {i : Nat} {e : C} {m : Bool} (h : W (evM con F own e m ρ) fun d => WE (exSs con F own r (ρ.set i (some d))) Q E) : WE (exSs con F own (.cons (.set i e m) r) ρ) Q E := WE_set h.e
theorem WE_rsx {k : Nat} {e : C} (h : W (evE con F e (mask own ρ)) fun d => E ⟨k, d⟩) : WE (exSs con F own (.cons (.rsx k e) r) ρ) Q E := by
  refine WE_cons ?_
  rw [exS]
  exact (h.e).bind fun d hd => WE.exc hd
theorem WE_whls {t : C} {b : Sts} (h : WE (whlD (fun ρ' => M.bind (evE con F t ρ') fun x => M.opt (truthD x)) (fun ρ' => exSs con F own b ρ') fuel ρ) (thenE con F own r Q E) E) : WE (exSs con F own (.cons (.whl t b) r) ρ) Q E := by
  refine WE_cons ?_
  rw [exS]
  exact h
end
theorem WE_whl {t : Env → M Bool} {body : Env → M Fl} {Q : Fl → Prop} {E : Ex → Prop} (Inv : Nat → Env → Prop)
    (h : ∀ m ρ, Inv m ρ → W (t ρ) (fun k => if k = true then WE (body ρ) (fun f => match f with
      | .nx ρ2 => ∃ m', m' < m ∧ Inv m' ρ2
      | .ct ρ2 => ∃ m', m' < m ∧ Inv m' ρ2
      | .rt d => Q (.rt d)
      | .bk ρ2 => Q (.nx ρ2)) E else Q (.nx ρ))) : ∀ (n m : Nat) (ρ : Env), m < n → Inv m ρ → WE (whlD t body n ρ) Q E
  | 0, m, ρ, hm, hi => by omega
  | n + 1, m, ρ, hm, hi => by
    unfold whlD
    refine ((h m ρ hi).e (E := E)).bind fun k hk => ?_
    cases k with
    | false => exact WE.ret hk
    | true =>
      refine WE.bind hk fun f hf => ?_
      cases f with
      | nx ρ2 =>
        obtain ⟨m', l, hf⟩ := hf
        exact WE_whl Inv h n m' ρ2 (by omega) hf
      | ct ρ2 =>
        obtain ⟨m', l, hf⟩ := hf
        exact WE_whl Inv h n m' ρ2 (by omega) hf
      | rt d => exact WE.ret hf
      | bk ρ2 => exact WE.ret hf
theorem WE_call {con : List D} {fs : List Def} {r n f : Nat} {d : Def} {ds : List D} {P : D → Prop} {E : Ex → Prop} (hf : fs[f]? = some d) (hr : f ≠ r) (hl : ds.length = d.np)
    (h : WE (exSs con (callD con fs r n) d.own d.body (startE d.nv ds)) (fun fl => match fl with
      | .rt x => P x
      | .nx _ => P .non
      | _ => False) E) : WE (callD con fs r (n + 1) f ds) P E := by
  rw [callD, if_neg hr, hf]
  show WE (runDef con (callD con fs r n) d ds) P E
  unfold runDef
  rw [if_pos hl]
  refine h.bind fun fl hfl => ?_
  cases fl with
  | rt x => exact WE.ret hfl
  | nx _ => exact WE.ret hfl
  | bk _ => exact hfl.elim
  | ct _ => exact hfl.elim
/-- try: b; except class k as n: return what it keeps -/
theorem W_try {con : List D} {F : Nat → List D → M D} {own : List Nat} {r b : Sts} {ρ : Env} {Q : Fl → Prop} {k : Nat} {i : Option Nat} (h : WE (exSs con F own b ρ) (thenS con F own r Q) (fun x => x.k = k ∧ Q (.rt x.d))) : W (exSs con F own (.cons (.try_ b [⟨[k], i, .fld⟩]) r) ρ) Q := by
  refine W_cons ?_
  rw [exS]
  intro s
  rcases h s with ⟨a, s', e, p⟩ | ⟨x, s', e, hk, p⟩
  · refine ⟨a, s', ?_, p⟩
    simp only [e]
  · refine ⟨.rt x.d, s', ?_, p⟩
    simp only [e]
    unfold handD
    rw [if_pos (by simp [hk])]
end Ev

namespace K04
open Ev
def con : List D := [.int 4000, .str [48, 49, 50, 51, 52, 53, 54, 55, 56, 57], .str [97, 98, 99, 100, 101, 102, 103, 104, 105, 106, 107, 108, 109, 110, 111, 112, 113, 114, 115, 116, 117, 118, 119, 120, 121, 122], .int 12, .str [32], .tup [.str [44], .str [61], .str [43], .str [34], .str [92]], .str [92], .str [44], .int 100, .str [61], .int 8, .str [48, 49, 50, 51, 52, 53, 54, 55, 56, 57], .str [97, 98, 99, 100, 101, 102, 103, 104, 105, 106, 107, 108, 109, 110, 111, 112, 113, 114, 115, 116, 117, 118, 119, 120, 121, 122], .int 12, .int 100]
/-- is_read_text -/
def b0 : Sts := .cons (.ret (.and_ (.bi .isi (.cons (.v 0) (.cons (.ty "str") .nil))) (.and_ (.cmp .LtE (.bi .len (.cons (.v 0) .nil)) (.g 0)) (.one (.bi .all_ (.cons (.comp (.chn .LtE .LtE (.c (.str [32])) (.v 1) (.c (.str [126]))) (.name 1) (.seq (.v 0)) .none [1]) .nil)))))) .nil
def d0 : Def := ⟨1, 2, [], b0⟩
/-- read_word -/
def b1 : Sts := .cons (.ifs (.or_ (.cmp .Eq (.v 1) (.bi .len (.cons (.v 0) .nil))) (.one (.cmp .NotIn (.ix (.v 0) (.v 1)) (.g 2)))) (.cons (.rsx 0 (.v 1)) .nil) (.nil)) (.cons (.set 2 (.bin .Add (.v 1) (.c (.int 1))) false) (.cons (.whl (.and_ (.cmp .Lt (.v 2) (.bi .len (.cons (.v 0) .nil))) (.one (.or_ (.cmp .In (.ix (.v 0) (.v 2)) (.g 2)) (.one (.cmp .In (.ix (.v 0) (.v 2)) (.g 1)))))) (.cons (.ifs (.cmp .Eq (.bin .Sub (.v 2) (.v 1)) (.g 3)) (.cons (.rsx 0 (.v 2)) .nil) (.nil)) (.cons (.set 2 (.bin .Add (.v 2) (.c (.int 1))) false) .nil))) (.cons (.ret (.tup (.cons (.sl (.v 0) (.some (.v 1)) (.some (.v 2))) (.cons (.v 2) .nil)))) .nil)))
def d1 : Def := ⟨2, 3, [], b1⟩
/-- behind_blanks -/
def b2 : Sts := .cons (.set 2 (.v 1) false) (.cons (.whl (.and_ (.cmp .Lt (.v 2) (.bi .len (.cons (.v 0) .nil))) (.one (.cmp .Eq (.ix (.v 0) (.v 2)) (.g 4)))) (.cons (.set 2 (.bin .Add (.v 2) (.c (.int 1))) false) .nil)) (.cons (.ret (.v 2)) .nil))
def d2 : Def := ⟨2, 3, [], b2⟩
/-- read_sign -/
def b3 : Sts := .cons (.ifs (.cmp .NotEq (.ix (.v 0) (.v 1)) (.g 6)) (.cons (.ifs (.cmp .In (.ix (.v 0) (.v 1)) (.g 5)) (.cons (.rsx 0 (.v 1)) .nil) (.nil)) (.cons (.ret (.tup (.cons (.ix (.v 0) (.v 1)) (.cons (.bin .Add (.v 1) (.c (.int 1))) .nil)))) .nil)) (.nil)) (.cons (.ifs (.or_ (.cmp .Eq (.bin .Add (.v 1) (.c (.int 1))) (.bi .len (.cons (.v 0) .nil))) (.one (.and_ (.cmp .NotEq (.ix (.v 0) (.bin .Add (.v 1) (.c (.int 1)))) (.g 4)) (.one (.cmp .NotIn (.ix (.v 0) (.bin .Add (.v 1) (.c (.int 1)))) (.g 5)))))) (.cons (.rsx 0 (.bin .Add (.v 1) (.c (.int 1)))) .nil) (.nil)) (.cons (.ret (.tup (.cons (.ix (.v 0) (.bin .Add (.v 1) (.c (.int 1)))) (.cons (.bin .Add (.v 1) (.c (.int 2))) .nil)))) .nil))
def d3 : Def := ⟨2, 2, [], b3⟩
/-- read_value -/
def b4 : Sts := .cons (.par [2, 3, 4] (.cons (.c (.str [])) (.cons (.c (.int 0)) (.cons (.v 1) .nil))) false) (.cons (.whl (.and_ (.cmp .Lt (.v 4) (.bi .len (.cons (.v 0) .nil))) (.one (.cmp .NotEq (.ix (.v 0) (.v 4)) (.g 7)))) (.cons (.ifs (.cmp .Eq (.ix (.v 0) (.v 4)) (.g 4)) (.cons (.par [3, 4] (.cons (.bin .Add (.v 3) (.c (.int 1))) (.cons (.bin .Add (.v 4) (.c (.int 1))) .nil)) false) .nil) (.cons (.unp [5, 6] (.call 3 (.cons (.v 0) (.cons (.v 4) .nil))) false) (.cons (.ifs (.or_ (.cmp .Eq (.bin .Add (.bi .len (.cons (.v 2) .nil)) (.v 3)) (.g 8)) (.one (.cmp .Gt (.bin .Add (.bi .len (.cons (.v 2) .nil)) (.v 3)) (.g 8)))) (.cons (.rsx 0 (.v 4)) .nil) (.nil)) (.cons (.par [2, 3, 4] (.cons (.bin .Add (.bin .Add (.v 2) (.bin .Mult (.g 4) (.v 3))) (.v 5)) (.cons (.c (.int 0)) (.cons (.v 6) .nil))) false) .nil)))) .nil)) (.cons (.ifs (.cmp .Eq (.v 2) (.c (.str []))) (.cons (.rsx 0 (.v 4)) .nil) (.nil)) (.cons (.ret (.tup (.cons (.v 2) (.cons (.v 4) .nil)))) .nil)))
def d4 : Def := ⟨2, 7, [], b4⟩
/-- read_pair -/
def b5 : Sts := .cons (.unp [2, 3] (.call 1 (.cons (.v 0) (.cons (.call 2 (.cons (.v 0) (.cons (.v 1) .nil))) .nil))) false) (.cons (.set 4 (.call 2 (.cons (.v 0) (.cons (.v 3) .nil))) false) (.cons (.ifs (.or_ (.cmp .Eq (.v 4) (.bi .len (.cons (.v 0) .nil))) (.one (.cmp .NotEq (.ix (.v 0) (.v 4)) (.g 9)))) (.cons (.rsx 0 (.v 4)) .nil) (.nil)) (.cons (.unp [5, 6] (.call 4 (.cons (.v 0) (.cons (.call 2 (.cons (.v 0) (.cons (.bin .Add (.v 4) (.c (.int 1))) .nil))) .nil))) false) (.cons (.ret (.tup (.cons (.tup (.cons (.v 2) (.cons (.v 5) .nil))) (.cons (.v 6) .nil)))) .nil))))
def d5 : Def := ⟨2, 7, [], b5⟩
/-- pairs_read -/
def b6 : Sts := .cons (.parL 1 2 (.c (.int 0))) (.cons (.whl (.c (.bl true)) (.cons (.unp [3, 2] (.call 5 (.cons (.v 0) (.cons (.v 2) .nil))) false) (.cons (.app 1 (.v 3)) (.cons (.ifs (.cmp .Eq (.v 2) (.bi .len (.cons (.v 0) .nil))) (.cons (.ret (.bi .tuple_ (.cons (.v 1) .nil))) .nil) (.nil)) (.cons (.ifs (.cmp .Eq (.bi .len (.cons (.v 1) .nil)) (.g 10)) (.cons (.rsx 0 (.v 2)) .nil) (.nil)) (.cons (.set 2 (.bin .Add (.v 2) (.c (.int 1))) false) .nil)))))) .nil)
def d6 : Def := ⟨1, 4, [1], b6⟩
/-- read_name -/
def b7 : Sts := .cons (.ifs (.not_ (.call 0 (.cons (.v 0) .nil))) (.cons (.rsx 1 (.v 0)) .nil) (.nil)) (.cons (.ret (.ite (.cmp .Eq (.call 2 (.cons (.v 0) (.cons (.c (.int 0)) .nil))) (.bi .len (.cons (.v 0) .nil))) (.tup (.nil)) (.call 6 (.cons (.v 0) .nil)))) .nil)
def d7 : Def := ⟨1, 1, [], b7⟩
/-- _law_told -/
def b8 : Sts := .cons (.try_ (.cons (.ret (.call 7 (.cons (.v 0) .nil))) .nil) [⟨[0], some 1, .fld⟩]) .nil
def d8 : Def := ⟨1, 2, [], b8⟩
/-- _law_one_of -/
def b9 : Sts := .cons (.ret (.ix (.v 1) (.call 28 (.cons (.v 0) (.cons (.bi .len (.cons (.v 1) .nil)) .nil))))) .nil
def d9 : Def := ⟨2, 2, [], b9⟩
/-- _law_string -/
def b10 : Sts := .cons (.set 1 (.lst (.cons (.c (.str [97])) (.cons (.c (.str [99, 110])) (.cons (.c (.str [98, 55])) (.cons (.c (.str [61])) (.cons (.c (.str [61])) (.cons (.c (.str [44])) (.cons (.c (.str [32])) (.cons (.c (.str [32, 32])) (.cons (.c (.str [120])) (.cons (.c (.str [89, 32, 121])) (.cons (.c (.str [92, 44])) (.cons (.c (.str [92, 32])) (.cons (.c (.str [92, 61])) (.cons (.c (.str [92, 92])) .nil))))))))))))))) false) (.cons (.set 2 (.lst (.cons (.c (.str [92])) (.cons (.c (.str [92, 120])) (.cons (.c (.str [43])) (.cons (.c (.str [34])) (.cons (.c (.str [55])) (.cons (.c (.str [97, 98, 99, 100, 101, 102, 103, 104, 105, 106, 107, 108, 109])) (.cons (.c (.str [65])) (.cons (.bin .Add (.c (.str [61])) (.bin .Mult (.c (.str [120])) (.c (.int 100)))) (.cons (.bin .Mult (.c (.str [32])) (.c (.int 60))) (.cons (.c (.str [92, 50])) .nil))))))))))) false) (.cons (.set 3 (.c (.str [])) false) (.cons (.for_ (.name 4) (.rng (.call 28 (.cons (.v 0) (.cons (.c (.int 12)) .nil)))) (.cons (.set 3 (.bin .Add (.v 3) (.call 9 (.cons (.v 0) (.cons (.bin .Add (.bin .Add (.v 1) (.v 1)) (.v 2)) .nil)))) false) .nil)) (.cons (.ret (.v 3)) .nil))))
def d10 : Def := ⟨1, 5, [], b10⟩
/-- _law_pairs_string -/
def b11 : Sts := .cons (.newL 1 (.nil)) (.cons (.for_ (.name 2) (.rng (.bin .Add (.c (.int 1)) (.call 28 (.cons (.v 0) (.cons (.c (.int 10)) .nil))))) (.cons (.set 3 (.call 9 (.cons (.v 0) (.cons (.lst (.cons (.bin .Add (.bin .Mult (.c (.str [120])) (.c (.int 99))) (.bin .Mult (.c (.str [32])) (.c (.int 3)))) (.cons (.bin .Add (.bin .Mult (.c (.str [120])) (.c (.int 98))) (.c (.str [32, 32, 121]))) (.cons (.bin .Add (.bin .Mult (.c (.str [120])) (.c (.int 100))) (.c (.str [92, 32]))) (.cons (.bin .Add (.bin .Mult (.c (.str [120])) (.c (.int 98))) (.c (.str [32, 121]))) .nil))))) .nil))) false) (.cons (.set 4 (.call 9 (.cons (.v 0) (.cons (.lst (.cons (.c (.str [120])) (.cons (.c (.str [65, 110, 110, 32, 66])) (.cons (.c (.str [92, 44])) (.cons (.c (.str [92, 32])) (.cons (.c (.str [92, 92])) (.cons (.c (.str [120])) (.cons (.c (.str [121])) (.cons (.v 3) .nil))))))))) .nil))) false) (.cons (.app 1 (.bin .Add (.bin .Add (.call 9 (.cons (.v 0) (.cons (.lst (.cons (.c (.str [97])) (.cons (.c (.str [99, 110, 32])) (.cons (.c (.str [32, 111, 117])) (.cons (.c (.str [97, 98, 99, 100, 101, 102, 103, 104, 105, 106, 107, 108])) (.cons (.c (.str [120, 49])) .nil)))))) .nil))) (.c (.str [61]))) (.v 4))) .nil)))) (.cons (.ret (.mt .join (.c (.str [44])) (.cons (.v 1) .nil))) .nil))
def d11 : Def := ⟨1, 5, [1], b11⟩
/-- text_of_sign -/
def b12 : Sts := .cons (.set 2 (.and_ (.cmp .Eq (.ix (.v 0) (.v 1)) (.g 4)) (.one (.cmp .In (.v 1) (.tup (.cons (.c (.int 0)) (.cons (.bin .Sub (.bi .len (.cons (.v 0) .nil)) (.c (.int 1))) .nil)))))) false) (.cons (.ret (.ite (.or_ (.v 2) (.one (.cmp .In (.ix (.v 0) (.v 1)) (.g 5)))) (.bin .Add (.g 6) (.ix (.v 0) (.v 1))) (.ix (.v 0) (.v 1)))) .nil)
def d12 : Def := ⟨2, 3, [], b12⟩
/-- text_of_pair -/
def b13 : Sts := .cons (.unp [1, 2] (.v 0) false) (.cons (.ret (.bin .Add (.bin .Add (.v 1) (.g 9)) (.mt .join (.c (.str [])) (.cons (.comp (.call 12 (.cons (.v 2) (.cons (.v 3) .nil))) (.names [3, 4]) (.enum (.v 2)) .none [3, 4]) .nil)))) .nil)
def d13 : Def := ⟨1, 5, [], b13⟩
/-- text_of_name -/
def b14 : Sts := .cons (.ret (.mt .join (.g 7) (.cons (.comp (.call 13 (.cons (.v 1) .nil)) (.name 1) (.seq (.v 0)) .none [1]) .nil))) .nil
def d14 : Def := ⟨1, 2, [], b14⟩
/-- is_word_in -/
def b15 : Sts := .cons (.ifs (.or_ (.not_ (.bi .isi (.cons (.v 0) (.cons (.ty "str") .nil)))) (.or_ (.not_ (.chn .LtE .LtE (.c (.int 1)) (.bi .len (.cons (.v 0) .nil)) (.g 13))) (.one (.cmp .NotIn (.ix (.v 0) (.c (.int 0))) (.g 12))))) (.cons (.ret (.c (.bl false))) .nil) (.nil)) (.cons (.ret (.bi .all_ (.cons (.comp (.or_ (.cmp .In (.v 1) (.g 12)) (.one (.cmp .In (.v 1) (.g 11)))) (.name 1) (.seq (.v 0)) .none [1]) .nil))) .nil)
def d15 : Def := ⟨1, 2, [], b15⟩
/-- is_text_in -/
def b16 : Sts := .cons (.ifs (.or_ (.not_ (.bi .isi (.cons (.v 0) (.cons (.ty "str") .nil)))) (.one (.not_ (.chn .LtE .LtE (.c (.int 1)) (.bi .len (.cons (.v 0) .nil)) (.g 14))))) (.cons (.ret (.c (.bl false))) .nil) (.nil)) (.cons (.ret (.bi .all_ (.cons (.comp (.chn .LtE .LtE (.c (.str [32])) (.v 1) (.c (.str [126]))) (.name 1) (.seq (.v 0)) .none [1]) .nil))) .nil)
def d16 : Def := ⟨1, 2, [], b16⟩
/-- is_pair_in -/
def b17 : Sts := .cons (.ret (.and_ (.bi .isi (.cons (.v 0) (.cons (.ty "tuple") .nil))) (.and_ (.cmp .Eq (.bi .len (.cons (.v 0) .nil)) (.c (.int 2))) (.and_ (.call 15 (.cons (.ix (.v 0) (.c (.int 0))) .nil)) (.one (.call 16 (.cons (.ix (.v 0) (.c (.int 1))) .nil))))))) .nil
def d17 : Def := ⟨1, 1, [], b17⟩
/-- is_name_in -/
def b18 : Sts := .cons (.ret (.and_ (.bi .isi (.cons (.v 0) (.cons (.ty "tuple") .nil))) (.and_ (.cmp .LtE (.bi .len (.cons (.v 0) .nil)) (.g 10)) (.one (.bi .all_ (.cons (.comp (.call 17 (.cons (.v 1) .nil)) (.name 1) (.seq (.v 0)) .none [1]) .nil)))))) .nil
def d18 : Def := ⟨1, 2, [], b18⟩
/-- name_text -/
def b19 : Sts := .cons (.ifs (.not_ (.call 18 (.cons (.v 0) .nil))) (.cons (.rsp 2) .nil) (.nil)) (.cons (.ret (.call 14 (.cons (.v 0) .nil))) .nil)
def d19 : Def := ⟨1, 1, [], b19⟩
/-- _law_name_pair -/
def b20 : Sts := .cons (.set 1 (.call 9 (.cons (.v 0) (.cons (.lst (.cons (.c (.str [99, 110])) (.cons (.c (.str [97])) (.cons (.c (.str [111, 117, 49])) (.cons (.c (.str [97, 98, 99, 100, 101, 102, 103, 104, 105, 106, 107, 108])) (.cons (.c (.str [120, 57])) (.cons (.c (.str [110, 97, 109, 101])) .nil))))))) .nil))) false) (.cons (.set 2 (.lst (.cons (.c (.str [69, 118, 101, 44, 32, 65])) (.cons (.c (.str [32, 120])) (.cons (.c (.str [120, 32])) (.cons (.c (.str [97, 61, 98, 43, 99])) (.cons (.c (.str [32])) (.cons (.c (.str [32, 32])) (.cons (.c (.str [92])) (.cons (.c (.str [34, 113, 34])) (.cons (.c (.str [97, 92, 32])) (.cons (.c (.str [112, 108, 97, 105, 110])) (.cons (.c (.str [97, 32, 32, 98])) (.cons (.c (.str [126])) (.cons (.c (.str [44])) (.cons (.c (.str [55])) .nil))))))))))))))) false) (.cons (.set 2 (.bin .Add (.v 2) (.lst (.cons (.bin .Mult (.c (.str [120])) (.c (.int 100))) (.cons (.c (.str [32, 35, 40, 97, 41, 42, 59, 32])) .nil)))) false) (.cons (.ret (.tup (.cons (.v 1) (.cons (.call 9 (.cons (.v 0) (.cons (.v 2) .nil))) .nil)))) .nil)))
def d20 : Def := ⟨1, 3, [], b20⟩
/-- _law_some_name -/
def b21 : Sts := .cons (.ret (.bi .tuple_ (.cons (.comp (.call 20 (.cons (.v 0) .nil)) (.name 2) (.rng (.call 28 (.cons (.v 0) (.cons (.bin .Add (.v 1) (.c (.int 1))) .nil)))) .none [2]) .nil))) .nil
def d21 : Def := ⟨2, 3, [], b21⟩
/-- _law_spoilt -/
def b22 : Sts := .cons (.par [2, 3] (.cons (.call 28 (.cons (.v 0) (.cons (.bin .Add (.bi .len (.cons (.v 1) .nil)) (.c (.int 1))) .nil))) (.cons (.call 9 (.cons (.v 0) (.cons (.lst (.cons (.c (.str [44])) (.cons (.c (.str [61])) (.cons (.c (.str [32])) (.cons (.c (.str [92])) (.cons (.c (.str [43])) (.cons (.c (.str [34])) (.cons (.c (.str [97])) (.cons (.c (.str [57])) (.cons (.c (.str [90])) (.cons (.c (.str [40])) .nil))))))))))) .nil))) .nil)) false) (.cons (.set 4 (.lst (.cons (.sl (.v 1) .none (.some (.v 2))) (.cons (.bin .Add (.bin .Add (.sl (.v 1) .none (.some (.v 2))) (.v 3)) (.sl (.v 1) (.some (.v 2)) .none)) (.cons (.bin .Add (.bin .Add (.sl (.v 1) .none (.some (.v 2))) (.v 3)) (.sl (.v 1) (.some (.bin .Add (.v 2) (.c (.int 1)))) .none)) (.cons (.bin .Add (.sl (.v 1) .none (.some (.v 2))) (.sl (.v 1) (.some (.bin .Add (.v 2) (.c (.int 1)))) .none)) .nil))))) false) (.cons (.ret (.call 9 (.cons (.v 0) (.cons (.v 4) .nil)))) .nil))
def d22 : Def := ⟨2, 5, [], b22⟩
/-- _law_blanks -/
def b23 : Sts := .cons (.whl (.and_ (.cmp .Lt (.v 1) (.bi .len (.cons (.v 0) .nil))) (.one (.cmp .Eq (.ix (.v 0) (.v 1)) (.c (.str [32]))))) (.cons (.set 1 (.bin .Add (.v 1) (.c (.int 1))) false) .nil)) (.cons (.ret (.v 1)) .nil)
def d23 : Def := ⟨2, 2, [], b23⟩
/-- _law_word_at -/
def b24 : Sts := .cons (.set 2 (.v 1) false) (.cons (.whl (.and_ (.cmp .Lt (.v 2) (.bi .len (.cons (.v 0) .nil))) (.one (.or_ (.chn .LtE .LtE (.c (.str [97])) (.ix (.v 0) (.v 2)) (.c (.str [122]))) (.one (.and_ (.cmp .Gt (.v 2) (.v 1)) (.one (.chn .LtE .LtE (.c (.str [48])) (.ix (.v 0) (.v 2)) (.c (.str [57]))))))))) (.cons (.ifs (.cmp .Eq (.bin .Sub (.v 2) (.v 1)) (.c (.int 12))) (.cons (.ret (.tup (.cons (.c (.non)) (.cons (.v 2) .nil)))) .nil) (.nil)) (.cons (.set 2 (.bin .Add (.v 2) (.c (.int 1))) false) .nil))) (.cons (.ret (.tup (.cons (.ite (.cmp .Gt (.v 2) (.v 1)) (.sl (.v 0) (.some (.v 1)) (.some (.v 2))) (.c (.non))) (.cons (.v 2) .nil)))) .nil))
def d24 : Def := ⟨2, 3, [], b24⟩
/-- _law_unmarked -/
def b25 : Sts := .cons (.ifs (.cmp .In (.ix (.v 0) (.v 1)) (.c (.str [61, 43, 34]))) (.cons (.ret (.tup (.cons (.c (.non)) (.cons (.v 1) .nil)))) .nil) (.nil)) (.cons (.ifs (.cmp .NotEq (.ix (.v 0) (.v 1)) (.c (.str [92]))) (.cons (.ret (.tup (.cons (.ix (.v 0) (.v 1)) (.cons (.bin .Add (.v 1) (.c (.int 1))) .nil)))) .nil) (.nil)) (.cons (.ifs (.or_ (.cmp .Eq (.bin .Add (.v 1) (.c (.int 1))) (.bi .len (.cons (.v 0) .nil))) (.one (.cmp .NotIn (.ix (.v 0) (.bin .Add (.v 1) (.c (.int 1)))) (.c (.str [44, 61, 43, 34, 92, 32]))))) (.cons (.ret (.tup (.cons (.c (.non)) (.cons (.bin .Add (.v 1) (.c (.int 1))) .nil)))) .nil) (.nil)) (.cons (.ret (.tup (.cons (.ix (.v 0) (.bin .Add (.v 1) (.c (.int 1)))) (.cons (.bin .Add (.v 1) (.c (.int 2))) .nil)))) .nil)))
def d25 : Def := ⟨2, 2, [], b25⟩
/-- _law_value -/
def b26 : Sts := .cons (.unp [2, 3] (.tup (.cons (.c (.str [])) (.cons (.c (.str [])) .nil))) false) (.cons (.whl (.and_ (.cmp .Lt (.v 1) (.bi .len (.cons (.v 0) .nil))) (.one (.cmp .NotEq (.ix (.v 0) (.v 1)) (.c (.str [44]))))) (.cons (.unp [4, 5] (.call 25 (.cons (.v 0) (.cons (.v 1) .nil))) false) (.cons (.ifs (.cmp .Is (.v 4) (.c (.non))) (.cons (.ret (.tup (.cons (.c (.non)) (.cons (.v 5) .nil)))) .nil) (.nil)) (.cons (.ifs (.cmp .Eq (.ix (.v 0) (.v 1)) (.c (.str [32]))) (.cons (.set 3 (.bin .Add (.v 3) (.c (.str [32]))) false) .nil) (.cons (.ifs (.cmp .GtE (.bin .Add (.bi .len (.cons (.v 2) .nil)) (.bi .len (.cons (.v 3) .nil))) (.c (.int 100))) (.cons (.ret (.tup (.cons (.c (.non)) (.cons (.v 1) .nil)))) .nil) (.cons (.par [2, 3] (.cons (.bin .Add (.bin .Add (.v 2) (.v 3)) (.v 4)) (.cons (.c (.str [])) .nil)) false) .nil)) .nil)) (.cons (.set 1 (.v 5) false) .nil))))) (.cons (.ret (.tup (.cons (.ite (.cmp .NotEq (.v 2) (.c (.str []))) (.v 2) (.c (.non))) (.cons (.v 1) .nil)))) .nil))
def d26 : Def := ⟨2, 6, [], b26⟩
/-- _law_read -/
def b27 : Sts := .cons (.parR 1 2 (.call 23 (.cons (.v 0) (.cons (.c (.int 0)) .nil)))) (.cons (.ifs (.cmp .Eq (.v 1) (.bi .len (.cons (.v 0) .nil))) (.cons (.ret (.tup (.nil))) .nil) (.nil)) (.cons (.whl (.c (.bl true)) (.cons (.unp [3, 1] (.call 24 (.cons (.v 0) (.cons (.call 23 (.cons (.v 0) (.cons (.v 1) .nil))) .nil))) false) (.cons (.ifs (.cmp .Is (.v 3) (.c (.non))) (.cons (.ret (.v 1)) .nil) (.nil)) (.cons (.set 1 (.call 23 (.cons (.v 0) (.cons (.v 1) .nil))) false) (.cons (.ifs (.or_ (.cmp .Eq (.v 1) (.bi .len (.cons (.v 0) .nil))) (.one (.cmp .NotEq (.ix (.v 0) (.v 1)) (.c (.str [61]))))) (.cons (.ret (.v 1)) .nil) (.nil)) (.cons (.unp [4, 1] (.call 26 (.cons (.v 0) (.cons (.call 23 (.cons (.v 0) (.cons (.bin .Add (.v 1) (.c (.int 1))) .nil))) .nil))) false) (.cons (.ifs (.cmp .Is (.v 4) (.c (.non))) (.cons (.ret (.v 1)) .nil) (.nil)) (.cons (.app 2 (.tup (.cons (.v 3) (.cons (.v 4) .nil)))) (.cons (.ifs (.cmp .Eq (.v 1) (.bi .len (.cons (.v 0) .nil))) (.cons (.ret (.bi .tuple_ (.cons (.v 2) .nil))) .nil) (.nil)) (.cons (.ifs (.cmp .Eq (.bi .len (.cons (.v 2) .nil)) (.c (.int 8))) (.cons (.ret (.v 1)) .nil) (.nil)) (.cons (.set 1 (.bin .Add (.v 1) (.c (.int 1))) false) .nil))))))))))) .nil))
def d27 : Def := ⟨1, 5, [2], b27⟩
def fs : List Def := [d0, d1, d2, d3, d4, d5, d6, d7, d8, d9, d10, d11, d12, d13, d14, d15, d16, d17, d18, d19, d20, d21, d22, d23, d24, d25, d26, d27]
/-- the calls -/
abbrev call (n f : Nat) (ds : List D) : M D := callD con fs 28 n f ds
abbrev i_is_read_text : Nat := 0
abbrev i_read_word : Nat := 1
abbrev i_behind_blanks : Nat := 2
abbrev i_read_sign : Nat := 3
abbrev i_read_value : Nat := 4
abbrev i_read_pair : Nat := 5
abbrev i_pairs_read : Nat := 6
abbrev i_read_name : Nat := 7
abbrev i_law_told : Nat := 8
abbrev i_law_one_of : Nat := 9
abbrev i_law_string : Nat := 10
abbrev i_law_pairs_string : Nat := 11
abbrev i_text_of_sign : Nat := 12
abbrev i_text_of_pair : Nat := 13
abbrev i_text_of_name : Nat := 14
abbrev i_is_word_in : Nat := 15
abbrev i_is_text_in : Nat := 16
abbrev i_is_pair_in : Nat := 17
abbrev i_is_name_in : Nat := 18
abbrev i_name_text : Nat := 19
abbrev i_law_name_pair : Nat := 20
abbrev i_law_some_name : Nat := 21
abbrev i_law_spoilt : Nat := 22
abbrev i_law_blanks : Nat := 23
abbrev i_law_word_at : Nat := 24
abbrev i_law_unmarked : Nat := 25
abbrev i_law_value : Nat := 26
abbrev i_law_read : Nat := 27
abbrev i_law_roll : Nat := 28
/-- the law's loop, its end -/
def lawB : Sts := .cons (.for_ (.name 3) (.rng (.c (.int 4))) (.cons (.set 4 (.lst (.cons (.call 10 (.cons (.v 2) .nil)) (.cons (.call 11 (.cons (.v 2) .nil)) (.cons (.call 19 (.cons (.call 21 (.cons (.v 2) (.cons (.c (.int 4)) .nil))) .nil)) .nil)))) false) (.cons (.set 4 (.bin .Add (.v 4) (.lst (.cons (.call 22 (.cons (.v 2) (.cons (.ix (.v 4) (.c (.int 1))) .nil))) (.cons (.call 22 (.cons (.v 2) (.cons (.ix (.v 4) (.c (.int 2))) .nil))) .nil)))) false) (.cons (.ifs (.cmp .NotEq (.comp (.v 5) (.name 5) (.seq (.v 4)) (.some (.cmp .NotEq (.call 8 (.cons (.v 5) .nil)) (.call 27 (.cons (.v 5) .nil)))) [5]) (.lst (.nil))) (.cons (.ret (.c (.bl false))) .nil) (.nil)) .nil)))) .nil
def lawT : Sts := .cons (.set 6 (.lst (.cons (.c (.str [97, 61, 98, 44])) (.cons (.c (.str [97, 61, 98, 61, 99])) (.cons (.c (.str [97, 32, 61, 32])) (.cons (.c (.str [97, 98, 99, 100, 101, 102, 103, 104, 105, 106, 107, 108, 109, 61, 120])) (.cons (.bin .Add (.c (.str [97, 61])) (.bin .Mult (.c (.str [120])) (.c (.int 101)))) (.cons (.bin .Add (.bin .Add (.c (.str [97, 61, 120])) (.bin .Mult (.c (.str [32])) (.c (.int 99)))) (.c (.str [121]))) (.cons (.c (.str [97, 61, 92, 55, 102])) (.cons (.c (.str [65, 61, 98])) .nil))))))))) false) (.cons (.set 7 (.comp (.call 8 (.cons (.v 5) .nil)) (.name 5) (.seq (.bin .Add (.v 6) (.lst (.cons (.mt .join (.c (.str [44])) (.cons (.bin .Mult (.lst (.cons (.c (.str [97, 61, 98])) .nil)) (.c (.int 9))) .nil)) .nil)))) .none [5]) false) (.cons (.ret (.cmp .Eq (.v 7) (.lst (.cons (.c (.int 4)) (.cons (.c (.int 3)) (.cons (.c (.int 4)) (.cons (.c (.int 12)) (.cons (.c (.int 102)) (.cons (.c (.int 102)) (.cons (.c (.int 3)) (.cons (.c (.int 0)) (.cons (.c (.int 31)) .nil)))))))))))) .nil))
def lawOwn : List Nat := []
def lawN : Nat := 8
end K04

namespace K04
open PySem PySem.Spec PyProof.Rows L2 Ev
def top (i : Nat) : Stmt := PySem.Challenge.pw_bailiwick_k04_whole_readers_of_names.main.body.getD i (.Pass ⟨0, 0, 0, 0⟩)
def cn : List Str := ["MOST_SIGNS", "DIGITS_names", "LETTERS", "MOST_WORD_names", "BLANK", "MARKED", "SLASH", "COMMA", "MOST_VALUE_SIGNS", "EQUALS", "MOST_LEVELS", "DIGITS_kinds", "SMALL_LETTERS", "MOST_WORD_kinds", "MOST_TEXT"]
def fnL : List (Str × Nat) := [("is_read_text", 1), ("read_word", 2), ("behind_blanks", 2), ("read_sign", 2), ("read_value", 2), ("read_pair", 2), ("pairs_read", 1), ("read_name", 1), ("_law_told", 1), ("_law_one_of", 2), ("_law_string", 1), ("_law_pairs_string", 1), ("text_of_sign", 2), ("text_of_pair", 1), ("text_of_name", 1), ("is_word_in", 1), ("is_text_in", 1), ("is_pair_in", 1), ("is_name_in", 1), ("name_text", 1), ("_law_name_pair", 1), ("_law_some_name", 2), ("_law_spoilt", 2), ("_law_blanks", 2), ("_law_word_at", 2), ("_law_unmarked", 2), ("_law_value", 2), ("_law_read", 1)]
def rx : Str × Nat := ("_law_roll", 2)
def fns : List (Str × Nat) := fnL ++ [rx]
def free : List Str := ["abs", "all", "enumerate", "int", "isinstance", "len", "max", "min", "range", "str", "tuple"]
def D_is_read_text : He.DefD := ⟨("is_read_text", none), "is_read_text", "is_read_text", defArgs (top 36), defBody (top 36), defScope (top 36), [], []⟩
def D_read_word : He.DefD := ⟨("read_word", none), "read_word", "read_word", defArgs (top 31), defBody (top 31), defScope (top 31), [], []⟩
def D_behind_blanks : He.DefD := ⟨("behind_blanks", none), "behind_blanks", "behind_blanks", defArgs (top 30), defBody (top 30), defScope (top 30), [], []⟩
def D_read_sign : He.DefD := ⟨("read_sign", none), "read_sign", "read_sign", defArgs (top 32), defBody (top 32), defScope (top 32), [], []⟩
def D_read_value : He.DefD := ⟨("read_value", none), "read_value", "read_value", defArgs (top 33), defBody (top 33), defScope (top 33), [], []⟩
def D_read_pair : He.DefD := ⟨("read_pair", none), "read_pair", "read_pair", defArgs (top 34), defBody (top 34), defScope (top 34), [], []⟩
def D_pairs_read : He.DefD := ⟨("pairs_read", none), "pairs_read", "pairs_read", defArgs (top 35), defBody (top 35), defScope (top 35), [], []⟩
def D_read_name : He.DefD := ⟨("read_name", none), "read_name", "read_name", defArgs (top 37), defBody (top 37), defScope (top 37), [], []⟩
def D_law_told : He.DefD := ⟨("_law_told", none), "_law_told", "_law_told", defArgs (top 49), defBody (top 49), defScope (top 49), [], []⟩
def D_law_one_of : He.DefD := ⟨("_law_one_of", none), "_law_one_of", "_law_one_of", defArgs (top 41), defBody (top 41), defScope (top 41), [], []⟩
def D_law_string : He.DefD := ⟨("_law_string", none), "_law_string", "_law_string", defArgs (top 50), defBody (top 50), defScope (top 50), [], []⟩
def D_law_pairs_string : He.DefD := ⟨("_law_pairs_string", none), "_law_pairs_string", "_law_pairs_string", defArgs (top 51), defBody (top 51), defScope (top 51), [], []⟩
def D_text_of_sign : He.DefD := ⟨("text_of_sign", none), "text_of_sign", "text_of_sign", defArgs (top 26), defBody (top 26), defScope (top 26), [], []⟩
def D_text_of_pair : He.DefD := ⟨("text_of_pair", none), "text_of_pair", "text_of_pair", defArgs (top 27), defBody (top 27), defScope (top 27), [], []⟩
def D_text_of_name : He.DefD := ⟨("text_of_name", none), "text_of_name", "text_of_name", defArgs (top 28), defBody (top 28), defScope (top 28), [], []⟩
def D_is_word_in : He.DefD := ⟨("is_word_in", none), "is_word_in", "is_word_in", defArgs (top 10), defBody (top 10), defScope (top 10), [], []⟩
def D_is_text_in : He.DefD := ⟨("is_text_in", none), "is_text_in", "is_text_in", defArgs (top 11), defBody (top 11), defScope (top 11), [], []⟩
def D_is_pair_in : He.DefD := ⟨("is_pair_in", none), "is_pair_in", "is_pair_in", defArgs (top 24), defBody (top 24), defScope (top 24), [], []⟩
def D_is_name_in : He.DefD := ⟨("is_name_in", none), "is_name_in", "is_name_in", defArgs (top 25), defBody (top 25), defScope (top 25), [], []⟩
def D_name_text : He.DefD := ⟨("name_text", none), "name_text", "name_text", defArgs (top 29), defBody (top 29), defScope (top 29), [], []⟩
def D_law_name_pair : He.DefD := ⟨("_law_name_pair", none), "_law_name_pair", "_law_name_pair", defArgs (top 42), defBody (top 42), defScope (top 42), [], []⟩
def D_law_some_name : He.DefD := ⟨("_law_some_name", none), "_law_some_name", "_law_some_name", defArgs (top 43), defBody (top 43), defScope (top 43), [], []⟩
def D_law_spoilt : He.DefD := ⟨("_law_spoilt", none), "_law_spoilt", "_law_spoilt", defArgs (top 52), defBody (top 52), defScope (top 52), [], []⟩
def D_law_blanks : He.DefD := ⟨("_law_blanks", none), "_law_blanks", "_law_blanks", defArgs (top 44), defBody (top 44), defScope (top 44), [], []⟩
def D_law_word_at : He.DefD := ⟨("_law_word_at", none), "_law_word_at", "_law_word_at", defArgs (top 45), defBody (top 45), defScope (top 45), [], []⟩
def D_law_unmarked : He.DefD := ⟨("_law_unmarked", none), "_law_unmarked", "_law_unmarked", defArgs (top 46), defBody (top 46), defScope (top 46), [], []⟩
def D_law_value : He.DefD := ⟨("_law_value", none), "_law_value", "_law_value", defArgs (top 47), defBody (top 47), defScope (top 47), [], []⟩
def D_law_read : He.DefD := ⟨("_law_read", none), "_law_read", "_law_read", defArgs (top 48), defBody (top 48), defScope (top 48), [], []⟩
def D_law_roll : He.DefD := ⟨("_law_roll", none), "_law_roll", "_law_roll", defArgs (top 40), defBody (top 40), defScope (top 40), [], []⟩
def D_law_dice : He.DefD := ⟨("_law_dice", none), "_law_dice", "_law_dice", defArgs (top 39), defBody (top 39), defScope (top 39), [], []⟩
def D_law : He.DefD := ⟨("law", none), "law", "law", defArgs (top 53), defBody (top 53), defScope (top 53), [], []⟩
def fn : List He.DefD := [D_is_read_text, D_read_word, D_behind_blanks, D_read_sign, D_read_value, D_read_pair, D_pairs_read, D_read_name, D_law_told, D_law_one_of, D_law_string, D_law_pairs_string, D_text_of_sign, D_text_of_pair, D_text_of_name, D_is_word_in, D_is_text_in, D_is_pair_in, D_is_name_in, D_name_text, D_law_name_pair, D_law_some_name, D_law_spoilt, D_law_blanks, D_law_word_at, D_law_unmarked, D_law_value, D_law_read, D_law_roll, D_law_dice, D_law]
def fa1 : List He.Fa := [.glo "is_read_text", .glo "read_word", .glo "behind_blanks", .glo "read_sign", .glo "read_value", .glo "read_pair", .glo "pairs_read", .glo "read_name", .glo "_law_told", .glo "_law_one_of", .glo "_law_string", .glo "_law_pairs_string", .glo "text_of_sign", .glo "text_of_pair", .glo "text_of_name", .glo "is_word_in", .glo "is_text_in", .glo "is_pair_in", .glo "is_name_in", .glo "name_text", .glo "_law_name_pair", .glo "_law_some_name", .glo "_law_spoilt", .glo "_law_blanks", .glo "_law_word_at", .glo "_law_unmarked", .glo "_law_value", .glo "_law_read", .glo "_law_roll", .glo "_law_dice", .glo "law"]
def fa : List He.Fa := fa1 ++ free.map .free
abbrev R : PySem.W.OpenRow := PySem.W.OpenLaw.row PySem.Challenge.rw_bailiwick_k04_whole_readers_of_names
def exs : List (Str × Option Str) := [("ParseError", some "index"), ("InvalidText", some "value"), ("InvalidName", none)]
abbrev PR : Program := (PySem.Challenge.rw_bailiwick_k04_whole_readers_of_names).prog
abbrev hk : PySem.W.Hook := hookEv 4 fa fn (fun K => conB K cn con && excB PR K exs)
def ob (s : PySem.W.SharedT) : AlE := obsEv 4 fa fn (fun K => conB K cn con && excB PR K exs) (HandSHeadRun.getT s)
theorem ob_eq (s : PySem.W.SharedT) : ob s = hk.obs s.abs := obsEv_eq (HandSHeadRun.getT_eq s)
def names0 : List Str := ["BailiwickError", "InvalidText", "InvalidName", "ParseError", "MOST_TEXT", "MOST_WORD_kinds", "SMALL_LETTERS", "DIGITS_kinds", "is_word_in", "is_text_in", "MOST_LEVELS", "MOST_SIGNS", "MOST_WORD_names", "MOST_VALUE_SIGNS", "BLANK", "SLASH", "COMMA", "EQUALS", "MARKED", "LETTERS", "DIGITS_names", "is_pair_in", "is_name_in", "text_of_sign", "text_of_pair", "text_of_name", "name_text", "behind_blanks", "read_word", "read_sign"]
def names1 : List Str := ["read_value", "read_pair", "pairs_read", "is_read_text", "read_name", "_law_dice", "_law_roll", "_law_one_of", "_law_name_pair", "_law_some_name", "_law_blanks", "_law_word_at", "_law_unmarked", "_law_value", "_law_read", "_law_told", "_law_string", "_law_pairs_string", "_law_spoilt"]
def names : List Str := names0 ++ names1
theorem run (w : World) : HandSHeadRun.RunEq R (PySem.W.view R.prog [53]) hk ob 20000 names w := by
  intro os
  kernel_rfl
theorem sc0 : FnScope ["value", "sign"] ["value"] (defScope (top 36)) := ⟨by decide +kernel, by decide +kernel, by decide +kernel, by decide +kernel, by decide +kernel, by decide +kernel, by decide +kernel⟩
theorem ck0 : okSs ⟨["value", "sign"], cn, fns, free, exs⟩ d0.own d0.body (defScope (top 36)) (defBody (top 36)) = true := by decide +kernel
theorem kn0 {K : PySem.W.Frag} {h : Heap} {mg : Str → Option Value} (X : K.In h) (G : h.Ns mainGlobals mg) (c : He.SaysD fa fn K) : Known exs K mg cn fns free "is_read_text" d0 := by
  obtain ⟨fd, F⟩ := c.def_ 0 (d := D_is_read_text) rfl
  exact ⟨_, fd, _, _, _, ["value", "sign"], ["value"], He.glo_ok X G (c.fact 0 (f := .glo "is_read_text") rfl), F, F.bindsN (fun _ _ _ _ _ _ us hl => match us, hl with | [_], _ => by kernel_rfl), sc0, rfl, rfl, by decide, ck0⟩
theorem sc1 : FnScope ["signs", "start", "at"] ["signs", "start"] (defScope (top 31)) := ⟨by decide +kernel, by decide +kernel, by decide +kernel, by decide +kernel, by decide +kernel, by decide +kernel, by decide +kernel⟩
theorem ck1 : okSs ⟨["signs", "start", "at"], cn, fns, free, exs⟩ d1.own d1.body (defScope (top 31)) (defBody (top 31)) = true := by decide +kernel
theorem kn1 {K : PySem.W.Frag} {h : Heap} {mg : Str → Option Value} (X : K.In h) (G : h.Ns mainGlobals mg) (c : He.SaysD fa fn K) : Known exs K mg cn fns free "read_word" d1 := by
  obtain ⟨fd, F⟩ := c.def_ 1 (d := D_read_word) rfl
  exact ⟨_, fd, _, _, _, ["signs", "start", "at"], ["signs", "start"], He.glo_ok X G (c.fact 1 (f := .glo "read_word") rfl), F, F.bindsN (fun _ _ _ _ _ _ us hl => match us, hl with | [_, _], _ => by kernel_rfl), sc1, rfl, rfl, by decide, ck1⟩
theorem sc2 : FnScope ["signs", "start", "at"] ["signs", "start"] (defScope (top 30)) := ⟨by decide +kernel, by decide +kernel, by decide +kernel, by decide +kernel, by decide +kernel, by decide +kernel, by decide +kernel⟩
theorem ck2 : okSs ⟨["signs", "start", "at"], cn, fns, free, exs⟩ d2.own d2.body (defScope (top 30)) (defBody (top 30)) = true := by decide +kernel
theorem kn2 {K : PySem.W.Frag} {h : Heap} {mg : Str → Option Value} (X : K.In h) (G : h.Ns mainGlobals mg) (c : He.SaysD fa fn K) : Known exs K mg cn fns free "behind_blanks" d2 := by
  obtain ⟨fd, F⟩ := c.def_ 2 (d := D_behind_blanks) rfl
  exact ⟨_, fd, _, _, _, ["signs", "start", "at"], ["signs", "start"], He.glo_ok X G (c.fact 2 (f := .glo "behind_blanks") rfl), F, F.bindsN (fun _ _ _ _ _ _ us hl => match us, hl with | [_, _], _ => by kernel_rfl), sc2, rfl, rfl, by decide, ck2⟩
theorem sc3 : FnScope ["signs", "at"] ["signs", "at"] (defScope (top 32)) := ⟨by decide +kernel, by decide +kernel, by decide +kernel, by decide +kernel, by decide +kernel, by decide +kernel, by decide +kernel⟩
theorem ck3 : okSs ⟨["signs", "at"], cn, fns, free, exs⟩ d3.own d3.body (defScope (top 32)) (defBody (top 32)) = true := by decide +kernel
theorem kn3 {K : PySem.W.Frag} {h : Heap} {mg : Str → Option Value} (X : K.In h) (G : h.Ns mainGlobals mg) (c : He.SaysD fa fn K) : Known exs K mg cn fns free "read_sign" d3 := by
  obtain ⟨fd, F⟩ := c.def_ 3 (d := D_read_sign) rfl
  exact ⟨_, fd, _, _, _, ["signs", "at"], ["signs", "at"], He.glo_ok X G (c.fact 3 (f := .glo "read_sign") rfl), F, F.bindsN (fun _ _ _ _ _ _ us hl => match us, hl with | [_, _], _ => by kernel_rfl), sc3, rfl, rfl, by decide, ck3⟩
theorem sc4 : FnScope ["signs", "start", "found", "blanks", "at", "sign", "end"] ["signs", "start"] (defScope (top 33)) := ⟨by decide +kernel, by decide +kernel, by decide +kernel, by decide +kernel, by decide +kernel, by decide +kernel, by decide +kernel⟩
theorem ck4 : okSs ⟨["signs", "start", "found", "blanks", "at", "sign", "end"], cn, fns, free, exs⟩ d4.own d4.body (defScope (top 33)) (defBody (top 33)) = true := by decide +kernel
theorem kn4 {K : PySem.W.Frag} {h : Heap} {mg : Str → Option Value} (X : K.In h) (G : h.Ns mainGlobals mg) (c : He.SaysD fa fn K) : Known exs K mg cn fns free "read_value" d4 := by
  obtain ⟨fd, F⟩ := c.def_ 4 (d := D_read_value) rfl
  exact ⟨_, fd, _, _, _, ["signs", "start", "found", "blanks", "at", "sign", "end"], ["signs", "start"], He.glo_ok X G (c.fact 4 (f := .glo "read_value") rfl), F, F.bindsN (fun _ _ _ _ _ _ us hl => match us, hl with | [_, _], _ => by kernel_rfl), sc4, rfl, rfl, by decide, ck4⟩
theorem sc5 : FnScope ["signs", "start", "word", "behind", "at", "text", "end"] ["signs", "start"] (defScope (top 34)) := ⟨by decide +kernel, by decide +kernel, by decide +kernel, by decide +kernel, by decide +kernel, by decide +kernel, by decide +kernel⟩
theorem ck5 : okSs ⟨["signs", "start", "word", "behind", "at", "text", "end"], cn, fns, free, exs⟩ d5.own d5.body (defScope (top 34)) (defBody (top 34)) = true := by decide +kernel
theorem kn5 {K : PySem.W.Frag} {h : Heap} {mg : Str → Option Value} (X : K.In h) (G : h.Ns mainGlobals mg) (c : He.SaysD fa fn K) : Known exs K mg cn fns free "read_pair" d5 := by
  obtain ⟨fd, F⟩ := c.def_ 5 (d := D_read_pair) rfl
  exact ⟨_, fd, _, _, _, ["signs", "start", "word", "behind", "at", "text", "end"], ["signs", "start"], He.glo_ok X G (c.fact 5 (f := .glo "read_pair") rfl), F, F.bindsN (fun _ _ _ _ _ _ us hl => match us, hl with | [_, _], _ => by kernel_rfl), sc5, rfl, rfl, by decide, ck5⟩
theorem sc6 : FnScope ["signs", "found", "at", "pair"] ["signs"] (defScope (top 35)) := ⟨by decide +kernel, by decide +kernel, by decide +kernel, by decide +kernel, by decide +kernel, by decide +kernel, by decide +kernel⟩
theorem ck6 : okSs ⟨["signs", "found", "at", "pair"], cn, fns, free, exs⟩ d6.own d6.body (defScope (top 35)) (defBody (top 35)) = true := by decide +kernel
theorem kn6 {K : PySem.W.Frag} {h : Heap} {mg : Str → Option Value} (X : K.In h) (G : h.Ns mainGlobals mg) (c : He.SaysD fa fn K) : Known exs K mg cn fns free "pairs_read" d6 := by
  obtain ⟨fd, F⟩ := c.def_ 6 (d := D_pairs_read) rfl
  exact ⟨_, fd, _, _, _, ["signs", "found", "at", "pair"], ["signs"], He.glo_ok X G (c.fact 6 (f := .glo "pairs_read") rfl), F, F.bindsN (fun _ _ _ _ _ _ us hl => match us, hl with | [_], _ => by kernel_rfl), sc6, rfl, rfl, by decide, ck6⟩
theorem sc7 : FnScope ["text"] ["text"] (defScope (top 37)) := ⟨by decide +kernel, by decide +kernel, by decide +kernel, by decide +kernel, by decide +kernel, by decide +kernel, by decide +kernel⟩
theorem ck7 : okSs ⟨["text"], cn, fns, free, exs⟩ d7.own d7.body (defScope (top 37)) (defBody (top 37)) = true := by decide +kernel
theorem kn7 {K : PySem.W.Frag} {h : Heap} {mg : Str → Option Value} (X : K.In h) (G : h.Ns mainGlobals mg) (c : He.SaysD fa fn K) : Known exs K mg cn fns free "read_name" d7 := by
  obtain ⟨fd, F⟩ := c.def_ 7 (d := D_read_name) rfl
  exact ⟨_, fd, _, _, _, ["text"], ["text"], He.glo_ok X G (c.fact 7 (f := .glo "read_name") rfl), F, F.bindsN (fun _ _ _ _ _ _ us hl => match us, hl with | [_], _ => by kernel_rfl), sc7, rfl, rfl, by decide, ck7⟩
theorem sc8 : FnScope ["_law_text", "e"] ["_law_text"] (defScope (top 49)) := ⟨by decide +kernel, by decide +kernel, by decide +kernel, by decide +kernel, by decide +kernel, by decide +kernel, by decide +kernel⟩
theorem ck8 : okSs ⟨["_law_text", "e"], cn, fns, free, exs⟩ d8.own d8.body (defScope (top 49)) (defBody (top 49)) = true := by decide +kernel
theorem kn8 {K : PySem.W.Frag} {h : Heap} {mg : Str → Option Value} (X : K.In h) (G : h.Ns mainGlobals mg) (c : He.SaysD fa fn K) : Known exs K mg cn fns free "_law_told" d8 := by
  obtain ⟨fd, F⟩ := c.def_ 8 (d := D_law_told) rfl
  exact ⟨_, fd, _, _, _, ["_law_text", "e"], ["_law_text"], He.glo_ok X G (c.fact 8 (f := .glo "_law_told") rfl), F, F.bindsN (fun _ _ _ _ _ _ us hl => match us, hl with | [_], _ => by kernel_rfl), sc8, rfl, rfl, by decide, ck8⟩
theorem sc9 : FnScope ["_law_dice_here", "_law_items"] ["_law_dice_here", "_law_items"] (defScope (top 41)) := ⟨by decide +kernel, by decide +kernel, by decide +kernel, by decide +kernel, by decide +kernel, by decide +kernel, by decide +kernel⟩
theorem ck9 : okSs ⟨["_law_dice_here", "_law_items"], cn, fns, free, exs⟩ d9.own d9.body (defScope (top 41)) (defBody (top 41)) = true := by decide +kernel
theorem kn9 {K : PySem.W.Frag} {h : Heap} {mg : Str → Option Value} (X : K.In h) (G : h.Ns mainGlobals mg) (c : He.SaysD fa fn K) : Known exs K mg cn fns free "_law_one_of" d9 := by
  obtain ⟨fd, F⟩ := c.def_ 9 (d := D_law_one_of) rfl
  exact ⟨_, fd, _, _, _, ["_law_dice_here", "_law_items"], ["_law_dice_here", "_law_items"], He.glo_ok X G (c.fact 9 (f := .glo "_law_one_of") rfl), F, F.bindsN (fun _ _ _ _ _ _ us hl => match us, hl with | [_, _], _ => by kernel_rfl), sc9, rfl, rfl, by decide, ck9⟩
theorem sc10 : FnScope ["_law_dice_here", "_law_some", "_law_odd", "_law_found", "_law_turn"] ["_law_dice_here"] (defScope (top 50)) := ⟨by decide +kernel, by decide +kernel, by decide +kernel, by decide +kernel, by decide +kernel, by decide +kernel, by decide +kernel⟩
theorem ck10 : okSs ⟨["_law_dice_here", "_law_some", "_law_odd", "_law_found", "_law_turn"], cn, fns, free, exs⟩ d10.own d10.body (defScope (top 50)) (defBody (top 50)) = true := by decide +kernel
theorem kn10 {K : PySem.W.Frag} {h : Heap} {mg : Str → Option Value} (X : K.In h) (G : h.Ns mainGlobals mg) (c : He.SaysD fa fn K) : Known exs K mg cn fns free "_law_string" d10 := by
  obtain ⟨fd, F⟩ := c.def_ 10 (d := D_law_string) rfl
  exact ⟨_, fd, _, _, _, ["_law_dice_here", "_law_some", "_law_odd", "_law_found", "_law_turn"], ["_law_dice_here"], He.glo_ok X G (c.fact 10 (f := .glo "_law_string") rfl), F, F.bindsN (fun _ _ _ _ _ _ us hl => match us, hl with | [_], _ => by kernel_rfl), sc10, rfl, rfl, by decide, ck10⟩
theorem sc11 : FnScope ["_law_dice_here", "_law_rows", "_law_turn", "_law_long", "_law_value_here"] ["_law_dice_here"] (defScope (top 51)) := ⟨by decide +kernel, by decide +kernel, by decide +kernel, by decide +kernel, by decide +kernel, by decide +kernel, by decide +kernel⟩
theorem ck11 : okSs ⟨["_law_dice_here", "_law_rows", "_law_turn", "_law_long", "_law_value_here"], cn, fns, free, exs⟩ d11.own d11.body (defScope (top 51)) (defBody (top 51)) = true := by decide +kernel
theorem kn11 {K : PySem.W.Frag} {h : Heap} {mg : Str → Option Value} (X : K.In h) (G : h.Ns mainGlobals mg) (c : He.SaysD fa fn K) : Known exs K mg cn fns free "_law_pairs_string" d11 := by
  obtain ⟨fd, F⟩ := c.def_ 11 (d := D_law_pairs_string) rfl
  exact ⟨_, fd, _, _, _, ["_law_dice_here", "_law_rows", "_law_turn", "_law_long", "_law_value_here"], ["_law_dice_here"], He.glo_ok X G (c.fact 11 (f := .glo "_law_pairs_string") rfl), F, F.bindsN (fun _ _ _ _ _ _ us hl => match us, hl with | [_], _ => by kernel_rfl), sc11, rfl, rfl, by decide, ck11⟩
theorem sc12 : FnScope ["text", "at", "is_edge"] ["text", "at"] (defScope (top 26)) := ⟨by decide +kernel, by decide +kernel, by decide +kernel, by decide +kernel, by decide +kernel, by decide +kernel, by decide +kernel⟩
theorem ck12 : okSs ⟨["text", "at", "is_edge"], cn, fns, free, exs⟩ d12.own d12.body (defScope (top 26)) (defBody (top 26)) = true := by decide +kernel
theorem kn12 {K : PySem.W.Frag} {h : Heap} {mg : Str → Option Value} (X : K.In h) (G : h.Ns mainGlobals mg) (c : He.SaysD fa fn K) : Known exs K mg cn fns free "text_of_sign" d12 := by
  obtain ⟨fd, F⟩ := c.def_ 12 (d := D_text_of_sign) rfl
  exact ⟨_, fd, _, _, _, ["text", "at", "is_edge"], ["text", "at"], He.glo_ok X G (c.fact 12 (f := .glo "text_of_sign") rfl), F, F.bindsN (fun _ _ _ _ _ _ us hl => match us, hl with | [_, _], _ => by kernel_rfl), sc12, rfl, rfl, by decide, ck12⟩
theorem sc13 : FnScope ["pair", "word", "text", "at", "sign"] ["pair"] (defScope (top 27)) := ⟨by decide +kernel, by decide +kernel, by decide +kernel, by decide +kernel, by decide +kernel, by decide +kernel, by decide +kernel⟩
theorem ck13 : okSs ⟨["pair", "word", "text", "at", "sign"], cn, fns, free, exs⟩ d13.own d13.body (defScope (top 27)) (defBody (top 27)) = true := by decide +kernel
theorem kn13 {K : PySem.W.Frag} {h : Heap} {mg : Str → Option Value} (X : K.In h) (G : h.Ns mainGlobals mg) (c : He.SaysD fa fn K) : Known exs K mg cn fns free "text_of_pair" d13 := by
  obtain ⟨fd, F⟩ := c.def_ 13 (d := D_text_of_pair) rfl
  exact ⟨_, fd, _, _, _, ["pair", "word", "text", "at", "sign"], ["pair"], He.glo_ok X G (c.fact 13 (f := .glo "text_of_pair") rfl), F, F.bindsN (fun _ _ _ _ _ _ us hl => match us, hl with | [_], _ => by kernel_rfl), sc13, rfl, rfl, by decide, ck13⟩
theorem sc14 : FnScope ["name", "pair"] ["name"] (defScope (top 28)) := ⟨by decide +kernel, by decide +kernel, by decide +kernel, by decide +kernel, by decide +kernel, by decide +kernel, by decide +kernel⟩
theorem ck14 : okSs ⟨["name", "pair"], cn, fns, free, exs⟩ d14.own d14.body (defScope (top 28)) (defBody (top 28)) = true := by decide +kernel
theorem kn14 {K : PySem.W.Frag} {h : Heap} {mg : Str → Option Value} (X : K.In h) (G : h.Ns mainGlobals mg) (c : He.SaysD fa fn K) : Known exs K mg cn fns free "text_of_name" d14 := by
  obtain ⟨fd, F⟩ := c.def_ 14 (d := D_text_of_name) rfl
  exact ⟨_, fd, _, _, _, ["name", "pair"], ["name"], He.glo_ok X G (c.fact 14 (f := .glo "text_of_name") rfl), F, F.bindsN (fun _ _ _ _ _ _ us hl => match us, hl with | [_], _ => by kernel_rfl), sc14, rfl, rfl, by decide, ck14⟩
theorem sc15 : FnScope ["value", "sign"] ["value"] (defScope (top 10)) := ⟨by decide +kernel, by decide +kernel, by decide +kernel, by decide +kernel, by decide +kernel, by decide +kernel, by decide +kernel⟩
theorem ck15 : okSs ⟨["value", "sign"], cn, fns, free, exs⟩ d15.own d15.body (defScope (top 10)) (defBody (top 10)) = true := by decide +kernel
theorem kn15 {K : PySem.W.Frag} {h : Heap} {mg : Str → Option Value} (X : K.In h) (G : h.Ns mainGlobals mg) (c : He.SaysD fa fn K) : Known exs K mg cn fns free "is_word_in" d15 := by
  obtain ⟨fd, F⟩ := c.def_ 15 (d := D_is_word_in) rfl
  exact ⟨_, fd, _, _, _, ["value", "sign"], ["value"], He.glo_ok X G (c.fact 15 (f := .glo "is_word_in") rfl), F, F.bindsN (fun _ _ _ _ _ _ us hl => match us, hl with | [_], _ => by kernel_rfl), sc15, rfl, rfl, by decide, ck15⟩
theorem sc16 : FnScope ["value", "sign"] ["value"] (defScope (top 11)) := ⟨by decide +kernel, by decide +kernel, by decide +kernel, by decide +kernel, by decide +kernel, by decide +kernel, by decide +kernel⟩
theorem ck16 : okSs ⟨["value", "sign"], cn, fns, free, exs⟩ d16.own d16.body (defScope (top 11)) (defBody (top 11)) = true := by decide +kernel
theorem kn16 {K : PySem.W.Frag} {h : Heap} {mg : Str → Option Value} (X : K.In h) (G : h.Ns mainGlobals mg) (c : He.SaysD fa fn K) : Known exs K mg cn fns free "is_text_in" d16 := by
  obtain ⟨fd, F⟩ := c.def_ 16 (d := D_is_text_in) rfl
  exact ⟨_, fd, _, _, _, ["value", "sign"], ["value"], He.glo_ok X G (c.fact 16 (f := .glo "is_text_in") rfl), F, F.bindsN (fun _ _ _ _ _ _ us hl => match us, hl with | [_], _ => by kernel_rfl), sc16, rfl, rfl, by decide, ck16⟩
theorem sc17 : FnScope ["value"] ["value"] (defScope (top 24)) := ⟨by decide +kernel, by decide +kernel, by decide +kernel, by decide +kernel, by decide +kernel, by decide +kernel, by decide +kernel⟩
theorem ck17 : okSs ⟨["value"], cn, fns, free, exs⟩ d17.own d17.body (defScope (top 24)) (defBody (top 24)) = true := by decide +kernel
theorem kn17 {K : PySem.W.Frag} {h : Heap} {mg : Str → Option Value} (X : K.In h) (G : h.Ns mainGlobals mg) (c : He.SaysD fa fn K) : Known exs K mg cn fns free "is_pair_in" d17 := by
  obtain ⟨fd, F⟩ := c.def_ 17 (d := D_is_pair_in) rfl
  exact ⟨_, fd, _, _, _, ["value"], ["value"], He.glo_ok X G (c.fact 17 (f := .glo "is_pair_in") rfl), F, F.bindsN (fun _ _ _ _ _ _ us hl => match us, hl with | [_], _ => by kernel_rfl), sc17, rfl, rfl, by decide, ck17⟩
theorem sc18 : FnScope ["value", "pair"] ["value"] (defScope (top 25)) := ⟨by decide +kernel, by decide +kernel, by decide +kernel, by decide +kernel, by decide +kernel, by decide +kernel, by decide +kernel⟩
theorem ck18 : okSs ⟨["value", "pair"], cn, fns, free, exs⟩ d18.own d18.body (defScope (top 25)) (defBody (top 25)) = true := by decide +kernel
theorem kn18 {K : PySem.W.Frag} {h : Heap} {mg : Str → Option Value} (X : K.In h) (G : h.Ns mainGlobals mg) (c : He.SaysD fa fn K) : Known exs K mg cn fns free "is_name_in" d18 := by
  obtain ⟨fd, F⟩ := c.def_ 18 (d := D_is_name_in) rfl
  exact ⟨_, fd, _, _, _, ["value", "pair"], ["value"], He.glo_ok X G (c.fact 18 (f := .glo "is_name_in") rfl), F, F.bindsN (fun _ _ _ _ _ _ us hl => match us, hl with | [_], _ => by kernel_rfl), sc18, rfl, rfl, by decide, ck18⟩
theorem sc19 : FnScope ["name"] ["name"] (defScope (top 29)) := ⟨by decide +kernel, by decide +kernel, by decide +kernel, by decide +kernel, by decide +kernel, by decide +kernel, by decide +kernel⟩
theorem ck19 : okSs ⟨["name"], cn, fns, free, exs⟩ d19.own d19.body (defScope (top 29)) (defBody (top 29)) = true := by decide +kernel
theorem kn19 {K : PySem.W.Frag} {h : Heap} {mg : Str → Option Value} (X : K.In h) (G : h.Ns mainGlobals mg) (c : He.SaysD fa fn K) : Known exs K mg cn fns free "name_text" d19 := by
  obtain ⟨fd, F⟩ := c.def_ 19 (d := D_name_text) rfl
  exact ⟨_, fd, _, _, _, ["name"], ["name"], He.glo_ok X G (c.fact 19 (f := .glo "name_text") rfl), F, F.bindsN (fun _ _ _ _ _ _ us hl => match us, hl with | [_], _ => by kernel_rfl), sc19, rfl, rfl, by decide, ck19⟩
theorem sc20 : FnScope ["_law_dice_here", "_law_name", "_law_some"] ["_law_dice_here"] (defScope (top 42)) := ⟨by decide +kernel, by decide +kernel, by decide +kernel, by decide +kernel, by decide +kernel, by decide +kernel, by decide +kernel⟩
theorem ck20 : okSs ⟨["_law_dice_here", "_law_name", "_law_some"], cn, fns, free, exs⟩ d20.own d20.body (defScope (top 42)) (defBody (top 42)) = true := by decide +kernel
theorem kn20 {K : PySem.W.Frag} {h : Heap} {mg : Str → Option Value} (X : K.In h) (G : h.Ns mainGlobals mg) (c : He.SaysD fa fn K) : Known exs K mg cn fns free "_law_name_pair" d20 := by
  obtain ⟨fd, F⟩ := c.def_ 20 (d := D_law_name_pair) rfl
  exact ⟨_, fd, _, _, _, ["_law_dice_here", "_law_name", "_law_some"], ["_law_dice_here"], He.glo_ok X G (c.fact 20 (f := .glo "_law_name_pair") rfl), F, F.bindsN (fun _ _ _ _ _ _ us hl => match us, hl with | [_], _ => by kernel_rfl), sc20, rfl, rfl, by decide, ck20⟩
theorem sc21 : FnScope ["_law_dice_here", "_law_most", "_law_turn"] ["_law_dice_here", "_law_most"] (defScope (top 43)) := ⟨by decide +kernel, by decide +kernel, by decide +kernel, by decide +kernel, by decide +kernel, by decide +kernel, by decide +kernel⟩
theorem ck21 : okSs ⟨["_law_dice_here", "_law_most", "_law_turn"], cn, fns, free, exs⟩ d21.own d21.body (defScope (top 43)) (defBody (top 43)) = true := by decide +kernel
theorem kn21 {K : PySem.W.Frag} {h : Heap} {mg : Str → Option Value} (X : K.In h) (G : h.Ns mainGlobals mg) (c : He.SaysD fa fn K) : Known exs K mg cn fns free "_law_some_name" d21 := by
  obtain ⟨fd, F⟩ := c.def_ 21 (d := D_law_some_name) rfl
  exact ⟨_, fd, _, _, _, ["_law_dice_here", "_law_most", "_law_turn"], ["_law_dice_here", "_law_most"], He.glo_ok X G (c.fact 21 (f := .glo "_law_some_name") rfl), F, F.bindsN (fun _ _ _ _ _ _ us hl => match us, hl with | [_, _], _ => by kernel_rfl), sc21, rfl, rfl, by decide, ck21⟩
theorem sc22 : FnScope ["_law_dice_here", "_law_text", "_law_at", "_law_sign", "_law_some"] ["_law_dice_here", "_law_text"] (defScope (top 52)) := ⟨by decide +kernel, by decide +kernel, by decide +kernel, by decide +kernel, by decide +kernel, by decide +kernel, by decide +kernel⟩
theorem ck22 : okSs ⟨["_law_dice_here", "_law_text", "_law_at", "_law_sign", "_law_some"], cn, fns, free, exs⟩ d22.own d22.body (defScope (top 52)) (defBody (top 52)) = true := by decide +kernel
theorem kn22 {K : PySem.W.Frag} {h : Heap} {mg : Str → Option Value} (X : K.In h) (G : h.Ns mainGlobals mg) (c : He.SaysD fa fn K) : Known exs K mg cn fns free "_law_spoilt" d22 := by
  obtain ⟨fd, F⟩ := c.def_ 22 (d := D_law_spoilt) rfl
  exact ⟨_, fd, _, _, _, ["_law_dice_here", "_law_text", "_law_at", "_law_sign", "_law_some"], ["_law_dice_here", "_law_text"], He.glo_ok X G (c.fact 22 (f := .glo "_law_spoilt") rfl), F, F.bindsN (fun _ _ _ _ _ _ us hl => match us, hl with | [_, _], _ => by kernel_rfl), sc22, rfl, rfl, by decide, ck22⟩
theorem sc23 : FnScope ["_law_text", "_law_at"] ["_law_text", "_law_at"] (defScope (top 44)) := ⟨by decide +kernel, by decide +kernel, by decide +kernel, by decide +kernel, by decide +kernel, by decide +kernel, by decide +kernel⟩
theorem ck23 : okSs ⟨["_law_text", "_law_at"], cn, fns, free, exs⟩ d23.own d23.body (defScope (top 44)) (defBody (top 44)) = true := by decide +kernel
theorem kn23 {K : PySem.W.Frag} {h : Heap} {mg : Str → Option Value} (X : K.In h) (G : h.Ns mainGlobals mg) (c : He.SaysD fa fn K) : Known exs K mg cn fns free "_law_blanks" d23 := by
  obtain ⟨fd, F⟩ := c.def_ 23 (d := D_law_blanks) rfl
  exact ⟨_, fd, _, _, _, ["_law_text", "_law_at"], ["_law_text", "_law_at"], He.glo_ok X G (c.fact 23 (f := .glo "_law_blanks") rfl), F, F.bindsN (fun _ _ _ _ _ _ us hl => match us, hl with | [_, _], _ => by kernel_rfl), sc23, rfl, rfl, by decide, ck23⟩
theorem sc24 : FnScope ["_law_text", "_law_at", "_law_end"] ["_law_text", "_law_at"] (defScope (top 45)) := ⟨by decide +kernel, by decide +kernel, by decide +kernel, by decide +kernel, by decide +kernel, by decide +kernel, by decide +kernel⟩
theorem ck24 : okSs ⟨["_law_text", "_law_at", "_law_end"], cn, fns, free, exs⟩ d24.own d24.body (defScope (top 45)) (defBody (top 45)) = true := by decide +kernel
theorem kn24 {K : PySem.W.Frag} {h : Heap} {mg : Str → Option Value} (X : K.In h) (G : h.Ns mainGlobals mg) (c : He.SaysD fa fn K) : Known exs K mg cn fns free "_law_word_at" d24 := by
  obtain ⟨fd, F⟩ := c.def_ 24 (d := D_law_word_at) rfl
  exact ⟨_, fd, _, _, _, ["_law_text", "_law_at", "_law_end"], ["_law_text", "_law_at"], He.glo_ok X G (c.fact 24 (f := .glo "_law_word_at") rfl), F, F.bindsN (fun _ _ _ _ _ _ us hl => match us, hl with | [_, _], _ => by kernel_rfl), sc24, rfl, rfl, by decide, ck24⟩
theorem sc25 : FnScope ["_law_text", "_law_at"] ["_law_text", "_law_at"] (defScope (top 46)) := ⟨by decide +kernel, by decide +kernel, by decide +kernel, by decide +kernel, by decide +kernel, by decide +kernel, by decide +kernel⟩
theorem ck25 : okSs ⟨["_law_text", "_law_at"], cn, fns, free, exs⟩ d25.own d25.body (defScope (top 46)) (defBody (top 46)) = true := by decide +kernel
theorem kn25 {K : PySem.W.Frag} {h : Heap} {mg : Str → Option Value} (X : K.In h) (G : h.Ns mainGlobals mg) (c : He.SaysD fa fn K) : Known exs K mg cn fns free "_law_unmarked" d25 := by
  obtain ⟨fd, F⟩ := c.def_ 25 (d := D_law_unmarked) rfl
  exact ⟨_, fd, _, _, _, ["_law_text", "_law_at"], ["_law_text", "_law_at"], He.glo_ok X G (c.fact 25 (f := .glo "_law_unmarked") rfl), F, F.bindsN (fun _ _ _ _ _ _ us hl => match us, hl with | [_, _], _ => by kernel_rfl), sc25, rfl, rfl, by decide, ck25⟩
theorem sc26 : FnScope ["_law_text", "_law_at", "_law_found", "_law_blanks_here", "_law_sign", "_law_end"] ["_law_text", "_law_at"] (defScope (top 47)) := ⟨by decide +kernel, by decide +kernel, by decide +kernel, by decide +kernel, by decide +kernel, by decide +kernel, by decide +kernel⟩
theorem ck26 : okSs ⟨["_law_text", "_law_at", "_law_found", "_law_blanks_here", "_law_sign", "_law_end"], cn, fns, free, exs⟩ d26.own d26.body (defScope (top 47)) (defBody (top 47)) = true := by decide +kernel
theorem kn26 {K : PySem.W.Frag} {h : Heap} {mg : Str → Option Value} (X : K.In h) (G : h.Ns mainGlobals mg) (c : He.SaysD fa fn K) : Known exs K mg cn fns free "_law_value" d26 := by
  obtain ⟨fd, F⟩ := c.def_ 26 (d := D_law_value) rfl
  exact ⟨_, fd, _, _, _, ["_law_text", "_law_at", "_law_found", "_law_blanks_here", "_law_sign", "_law_end"], ["_law_text", "_law_at"], He.glo_ok X G (c.fact 26 (f := .glo "_law_value") rfl), F, F.bindsN (fun _ _ _ _ _ _ us hl => match us, hl with | [_, _], _ => by kernel_rfl), sc26, rfl, rfl, by decide, ck26⟩
theorem sc27 : FnScope ["_law_text", "_law_at", "_law_pairs", "_law_word", "_law_value_here"] ["_law_text"] (defScope (top 48)) := ⟨by decide +kernel, by decide +kernel, by decide +kernel, by decide +kernel, by decide +kernel, by decide +kernel, by decide +kernel⟩
theorem ck27 : okSs ⟨["_law_text", "_law_at", "_law_pairs", "_law_word", "_law_value_here"], cn, fns, free, exs⟩ d27.own d27.body (defScope (top 48)) (defBody (top 48)) = true := by decide +kernel
theorem kn27 {K : PySem.W.Frag} {h : Heap} {mg : Str → Option Value} (X : K.In h) (G : h.Ns mainGlobals mg) (c : He.SaysD fa fn K) : Known exs K mg cn fns free "_law_read" d27 := by
  obtain ⟨fd, F⟩ := c.def_ 27 (d := D_law_read) rfl
  exact ⟨_, fd, _, _, _, ["_law_text", "_law_at", "_law_pairs", "_law_word", "_law_value_here"], ["_law_text"], He.glo_ok X G (c.fact 27 (f := .glo "_law_read") rfl), F, F.bindsN (fun _ _ _ _ _ _ us hl => match us, hl with | [_], _ => by kernel_rfl), sc27, rfl, rfl, by decide, ck27⟩
theorem allk {K : PySem.W.Frag} {h : Heap} {mg : Str → Option Value} (X : K.In h) (G : h.Ns mainGlobals mg) (c : He.SaysD fa fn K) : AllKnown exs K mg cn fns free fnL fs :=
  ⟨⟨rfl, kn0 X G c⟩, ⟨rfl, kn1 X G c⟩, ⟨rfl, kn2 X G c⟩, ⟨rfl, kn3 X G c⟩, ⟨rfl, kn4 X G c⟩, ⟨rfl, kn5 X G c⟩, ⟨rfl, kn6 X G c⟩, ⟨rfl, kn7 X G c⟩, ⟨rfl, kn8 X G c⟩, ⟨rfl, kn9 X G c⟩, ⟨rfl, kn10 X G c⟩, ⟨rfl, kn11 X G c⟩, ⟨rfl, kn12 X G c⟩, ⟨rfl, kn13 X G c⟩, ⟨rfl, kn14 X G c⟩, ⟨rfl, kn15 X G c⟩, ⟨rfl, kn16 X G c⟩, ⟨rfl, kn17 X G c⟩, ⟨rfl, kn18 X G c⟩, ⟨rfl, kn19 X G c⟩, ⟨rfl, kn20 X G c⟩, ⟨rfl, kn21 X G c⟩, ⟨rfl, kn22 X G c⟩, ⟨rfl, kn23 X G c⟩, ⟨rfl, kn24 X G c⟩, ⟨rfl, kn25 X G c⟩, ⟨rfl, kn26 X G c⟩, ⟨rfl, kn27 X G c⟩, trivial⟩
/-! ### the roll -/
theorem scR : FnScope ["_law_dice_here", "_law_total", "_law_size", "_law_drawn", "_law_one", "_law_two"] ["_law_dice_here", "_law_total"] (defScope (top 40)) := ⟨rfl, rfl, rfl, by decide +kernel, rfl, by decide +kernel, by decide +kernel⟩
theorem roll_ok {T : List (Addr × Option Str)} {P : Program} {w : World} {K : PySem.W.Frag} {h : Heap} {mg : Str → Option Value} {base : Heap} (X : K.In h) (G : h.Ns mainGlobals mg) (c : He.SaysD fa fn K) : Rolls T P w K mg base "_law_roll" := by
  obtain ⟨fd, F⟩ := c.def_ 28 (d := D_law_roll) rfl
  have gi : mg "int" = none := free_of X G c (List.mem_append_right _ (List.mem_map.mpr ⟨"int", by decide +kernel, rfl⟩))
  refine ⟨_, fd, ["_law_dice_here", "_law_total"], He.glo_ok X G (c.fact 28 (f := .glo "_law_roll") rfl), F.kp, F.bindsN (fun _ _ _ _ _ _ us hl => match us, hl with | [_, _], _ => by kernel_rfl), ?_⟩
  refine F.ok scR (fun vs H Q E h => ?_) (fun cdv A outer s H vs Q E hr h => ?_)
  · obtain ⟨_, _, _, _, hl, _⟩ := h
    exact hl
  · refine ⟨_, PSs.nox (pss_cons (ps_set (i := 2) scR.nd rfl (.inl rfl) (pe_callTy call_int1 rfl gi boot_int (pa_cons (pv 1) pa_nil)))
      (pss_cons (ps_if (pt_cmpR op_gt (pe_ix ix_list (pv 0) pe_int (fun _ _ => rfl)) pe_int (nomark _))
        (pss_cons (ps_set (i := 3) scR.nd rfl (.inl rfl) (pe_op op_modN (pe_ix ix_list (pv 0) pe_int (fun _ _ => rfl)) (pv 2)))
          (pss_cons (ps_asg (pe_op op_fdivN (pe_ix ix_list (pv 0) pe_int (fun _ _ => rfl)) (pv 2)) (pg_sub (pv 0) pe_int set_list))
            (pss_one (ps_ret (pe_callTy call_int1 rfl gi boot_int (pa_cons (pv 3) pa_nil)))))) pss_nil)
      (pss_cons (ps_asg (pe_op op_add (pe_ix ix_list (pv 0) pe_int (fun _ _ => rfl)) pe_int) (pg_sub (pv 0) pe_int set_list))
      (pss_cons (ps_set (i := 4) scR.nd rfl (.inl rfl) (pe_op op_modN (pe_op op_add (pe_ix ix_list (pv 0) pe_int (fun _ _ => rfl)) (pe_op op_mul pe_int (pe_ix ix_list (pv 0) pe_int (fun _ _ => rfl)))) pe_int))
      (pss_cons (ps_set (i := 5) scR.nd rfl (.inl rfl) (pe_op op_add (pe_op op_mul (pe_op op_modN (pe_op op_mul (pv 4) (pv 4)) pe_int) (pv 4)) (pe_op op_mul pe_int (pe_ix ix_list (pv 0) pe_int (fun _ _ => rfl)))))
      (pss_cons (ps_set (i := 5) scR.nd rfl (.inl rfl) (pe_op op_modN (pv 5) pe_int))
      (pss_one (ps_ret (pe_callTy call_int1 rfl gi boot_int (pa_cons (pe_op op_modN (pe_op op_fdivN (pv 5) pe_int) (pv 2)) pa_nil)))))))))), ?_⟩
    obtain ⟨q, A', ds, s', hl, st, r, post⟩ := h
    obtain ⟨n, rfl⟩ := roll_args post
    obtain ⟨v, w, rfl, r1, r2⟩ := reps2 r
    rw [rep_dice] at r1
    rw [rep_int] at r2
    subst r1 r2
    have dq : H q = some (.lst [.int s'.a, .int s'.b, .int s'.c]) := st.dc
    have ku : ∀ o, Keep q H (upd H q o) := fun o a u n e => by rw [upd_ne n]; exact e
    change PostE _ K q A' H (rollD n s') Q at post
    unfold rollD at post
    split at post
    · exact post.elim
    · rename_i hn
      have hn0 : n ≠ 0 := by omega
      have hn1 : n.natAbs < 1073741824 := by omega
      refine ⟨_, rfl, .inl ⟨n, rfl, ?_⟩⟩
      refine ⟨_, rfl, q, _, 0, _, rfl, rfl, SqL.of dq, rfl, _, _, rfl, rfl, _, rfl, ?_⟩
      by_cases hp : 0 < s'.a
      · rw [if_pos hp] at post
        rw [if_pos (decide_eq_true hp)]
        refine ⟨_, rfl, q, _, 0, _, rfl, rfl, SqL.of dq, rfl, _, rfl, _, _, rfl, rfl, hn0, ?_⟩
        refine ⟨_, rfl, q, _, 0, _, rfl, rfl, SqL.of dq, rfl, _, rfl, _, _, rfl, rfl, ⟨hn0, hn1⟩, _, rfl, q, _, 0, 0, rfl, rfl, dq, rfl, ?_⟩
        refine ⟨_, rfl, .inl ⟨_, rfl, ?_⟩⟩
        exact post _ _ (ku _) upd_same (by rw [rep_int])
      · rw [if_neg hp] at post
        rw [if_neg (by rw [decide_eq_false hp]; exact Bool.false_ne_true)]
        refine ⟨_, rfl, q, _, 2, _, rfl, rfl, SqL.of dq, rfl, _, _, rfl, rfl, _, rfl, q, _, 2, 2, rfl, rfl, dq, rfl, ?_⟩
        have dq2 : upd H q (.lst [.int s'.a, .int s'.b, .int (s'.c + 1)]) q = some (.lst [.int s'.a, .int s'.b, .int (s'.c + 1)]) := upd_same
        refine ⟨_, rfl, q, _, 1, _, rfl, rfl, SqL.of dq2, rfl, _, rfl, q, _, 2, _, rfl, rfl, SqL.of dq2, rfl, _, _, rfl, rfl, .inl ⟨by decide, by decide⟩, _, _, rfl, rfl, _, _, rfl, rfl, (show (2305843009213693951 : Int) ≠ 0 by decide), ?_⟩
        have b1 := roll_b1 (s'.b + 1000357 * (s'.c + 1))
        refine ⟨_, rfl, _, rfl, _, _, rfl, rfl, .inl b1, _, _, rfl, rfl, (show (2305843009213693921 : Int) ≠ 0 by decide), _, rfl, _, _, rfl, rfl, .inr b1, _, rfl, q, _, 2, _, rfl, rfl, SqL.of dq2, rfl, _, _, rfl, rfl, .inl ⟨by decide, by decide⟩, _, _, rfl, rfl, ?_⟩
        refine ⟨_, rfl, _, _, rfl, rfl, (show (2305843009213693907 : Int) ≠ 0 by decide), ?_⟩
        refine ⟨_, rfl, _, _, rfl, rfl, ⟨(show (4096 : Int) ≠ 0 by decide), by decide⟩, _, rfl, _, _, rfl, rfl, hn0, .inl ⟨_, rfl, ?_⟩⟩
        exact post _ _ (ku _) upd_same (by rw [rep_int])

/-! ### the dice -/
theorem scD : FnScope ["_law_script", "_law_at", "_law_cell", "_law_great", "_law_left", "_law_mixed"] ["_law_script", "_law_at"] (defScope (top 39)) := ⟨rfl, rfl, rfl, by decide +kernel, rfl, by decide +kernel, by decide +kernel⟩
theorem dice_ok {P : Program} {w : World} {K : PySem.W.Frag} {h : Heap} {mg : Str → Option Value} {base : Heap} (X : K.In h) (G : h.Ns mainGlobals mg) (c : He.SaysD fa fn K) :
    ∃ (a : Addr) (fd : FuncData), mg "_law_dice" = some (.ref a) ∧ PySem.W.keepIn K (.ref a) = true ∧ Binds K fd ["_law_script", "_law_at"] [] ∧ FnOk P w K mg base CX0 1 a fd ["_law_script", "_law_at"] (spDice K) := by
  obtain ⟨fd, F⟩ := c.def_ 29 (d := D_law_dice) rfl
  have fr : ∀ x : Str, x ∈ free → mg x = none := fun x hx => free_of X G c (List.mem_append_right _ (List.mem_map.mpr ⟨x, hx, rfl⟩))
  have gi : mg "int" = none := fr _ (by decide +kernel)
  have ga : mg "abs" = none := fr _ (by decide +kernel)
  have gl : mg "len" = none := fr _ (by decide +kernel)
  refine ⟨_, fd, He.glo_ok X G (c.fact 29 (f := .glo "_law_dice") rfl), F.kp, F.bindsN (fun _ _ _ _ _ _ us hl => match us, hl with | [_, _], _ => by kernel_rfl), ?_⟩
  refine F.ok scD (fun vs H Q E h => ?_) (fun cdv A outer s H vs Q E hr h => ?_)
  · obtain ⟨_, _, _, rfl, _⟩ := h
    rfl
  · refine ⟨_, PSs.nox (pss_cons (ps_set (i := 2) scD.nd rfl (.inl rfl) (pe_op op_add (pe_op op_mul pe_int (pv 1)) pe_int))
      (pss_cons (ps_if (pt_cmpR op_lt (pv 1) (pe_callB call_len rfl gl boot_len (pa_cons (pv 0) pa_nil)) (nomark _))
        (pss_one (ps_set (i := 2) scD.nd rfl (.inl rfl) (pe_ix ix_list (pv 0) (pv 1) (fun _ _ => rfl)))) pss_nil)
      (pss_cons (ps_set (i := 3) scD.nd rfl (.inl rfl) (pe_op op_modN (pe_callTy call_int1 rfl gi boot_int (pa_cons (pe_callB call_abs rfl ga boot_abs (pa_cons (pv 2) pa_nil)) pa_nil)) (pe_op op_powW (pe_op op_powW pe_int pe_int) pe_int)))
      (pss_cons (ps_set (i := 4) scD.nd rfl (.inl rfl) (pe_op op_fdivW (pv 3) (pe_op op_powW pe_int pe_int)))
      (pss_cons (ps_set (i := 5) scD.nd rfl (.inl rfl) (pe_op op_add (pe_op op_add (pe_op op_add (pe_op op_mul (pe_op op_modN (pv 3) pe_int) pe_int) (pe_op op_mul pe_int (pv 1))) (pe_op op_mul pe_int (pe_callTy call_int1 rfl gi boot_int (pa_cons (pe_cmpR op_lt (pv 2) pe_int (nomark _)) pa_nil)))) pe_int))
      (pss_one (ps_ret (pe_lst (pa_cons (pv 4) (pa_cons (pe_op op_modN (pv 5) pe_int) (pa_cons pe_int pa_nil))))))))))), ?_⟩
    obtain ⟨a, ns, i, rfl, hS, post⟩ := h
    refine ⟨_, rfl, _, _, rfl, rfl, .inl ⟨by decide, by decide⟩, _, _, rfl, rfl, ?_⟩
    refine ⟨_, rfl, _, rfl, _, _, rfl, .inl ⟨_, hS, rfl⟩, _, _, rfl, rfl, _, rfl, ?_⟩
    by_cases hp : (i : Int) < ((ns.map V.int).length : Nat)
    · show (if decide ((i : Int) < ((ns.map V.int).length : Nat)) = true then _ else _)
      rw [if_pos (decide_eq_true hp)]
      have hi : i < ns.length := by
        rw [List.length_map] at hp
        omega
      refine ⟨_, rfl, _, rfl, a, _, i, .int (ns[i]), rfl, rfl, hS, atI_nat (by simp [hi]), ?_⟩
      refine ⟨_, rfl, _, rfl, .inl ⟨_, rfl, _, _, rfl, rfl, ⟨by decide, by decide +kernel⟩, _, _, rfl, rfl, ⟨by decide, by decide +kernel⟩, _, _, rfl, rfl, by show ((10 : Int) ^ 60) ^ 10 ≠ 0; decide +kernel, ?_⟩⟩
      refine ⟨_, rfl, _, _, rfl, rfl, ⟨by decide, by decide +kernel⟩, _, _, rfl, rfl, by show CDivW _ ((10 : Int) ^ 18); exact ⟨by decide +kernel, by decide +kernel⟩, ?_⟩
      refine ⟨_, rfl, _, _, rfl, rfl, (show (2147482763 : Int) ≠ 0 by decide), _, _, rfl, rfl, .inr ⟨by decide, by decide⟩, _, rfl, _, _, rfl, rfl, .inl ⟨by decide, by decide⟩, _, _, rfl, rfl, _, rfl, _, _, rfl, rfl, .inr ⟨_, rfl, _, _, rfl, rfl, .inl ⟨by decide, by decide⟩, _, _, rfl, rfl, _, _, rfl, rfl, ?_⟩⟩
      refine ⟨_, rfl, _, rfl, _, _, rfl, rfl, (show (2147482739 : Int) ≠ 0 by decide), (show (3 : Nat) ≤ sizeLine by decide), fun p hp => ?_⟩
      exact post p _ _ hp
    · show (if decide ((i : Int) < ((ns.map V.int).length : Nat)) = true then _ else _)
      rw [if_neg (by rw [decide_eq_false hp]; exact Bool.false_ne_true)]
      refine ⟨_, rfl, _, rfl, .inl ⟨_, rfl, _, _, rfl, rfl, ⟨by decide, by decide +kernel⟩, _, _, rfl, rfl, ⟨by decide, by decide +kernel⟩, _, _, rfl, rfl, by show ((10 : Int) ^ 60) ^ 10 ≠ 0; decide +kernel, ?_⟩⟩
      refine ⟨_, rfl, _, _, rfl, rfl, ⟨by decide, by decide +kernel⟩, _, _, rfl, rfl, by show CDivW _ ((10 : Int) ^ 18); exact ⟨by decide +kernel, by decide +kernel⟩, ?_⟩
      refine ⟨_, rfl, _, _, rfl, rfl, (show (2147482763 : Int) ≠ 0 by decide), _, _, rfl, rfl, .inr ⟨by decide, by decide⟩, _, rfl, _, _, rfl, rfl, .inl ⟨by decide, by decide⟩, _, _, rfl, rfl, _, rfl, _, _, rfl, rfl, .inr ⟨_, rfl, _, _, rfl, rfl, .inl ⟨by decide, by decide⟩, _, _, rfl, rfl, _, _, rfl, rfl, ?_⟩⟩
      refine ⟨_, rfl, _, rfl, _, _, rfl, rfl, (show (2147482739 : Int) ≠ 0 by decide), (show (3 : Nat) ≤ sizeLine by decide), fun p hp => ?_⟩
      exact post p _ _ hp

/-! ### the law -/
abbrev lawN' : List Str := ["_law_script", "_law_at", "_law_dice_here", "_law_turn", "_law_some", "_law_text", "_law_texts", "_law_told_here"]
def lawFor : List Stmt := (forBody ((defBody (top 53)).getD 0 (.Pass ⟨0, 0, 0, 0⟩))).tail
def lawRest : List Stmt := (defBody (top 53)).tail
theorem scL : FnScope lawN' ["_law_script"] (defScope (top 53)) := ⟨rfl, rfl, rfl, by decide +kernel, rfl, by decide +kernel, by decide +kernel⟩
theorem ckB : okSs ⟨lawN', cn, fns, free, exs⟩ lawOwn lawB (defScope (top 53)) lawFor = true := by decide +kernel
theorem ckT : okSs ⟨lawN', cn, fns, free, exs⟩ lawOwn lawT (defScope (top 53)) lawRest = true := by decide +kernel
abbrev calls : Nat → List D → M D := callD con fs 28 7
/-- the plain law -/
structure Plain : Prop where
  body : ∀ (i : Nat) (a : Addr) (s : S), ∃ ρ' s', exSs con calls lawOwn lawB (lawEnv 8 1 2 a i) s = .ok (.nx ρ') s' ∧ 8 ≤ ρ'.length ∧ 0 ∉ lawOwn ∧ getV ρ' 0 = some (.opq a)
  tail : ∀ s : S, ∃ s', exSs con calls lawOwn lawT (List.replicate 8 none) s = .ok (.rt (.bl true)) s'
theorem law_ok (pl : Plain) {w : World} {K : PySem.W.Frag} {h : Heap} {mg : Str → Option Value} {base : Heap} (X : K.In h) (G : h.Ns mainGlobals mg) (c : He.SaysD fa fn K) (cb : (conB K cn con && excB PR K exs) = true) {f : Addr} {fd : FuncData}
    (F : FunD K "law" "law" (defArgs (top 53)) (defBody (top 53)) (defScope (top 53)) [] [] f fd) : FnOk PR w K mg base CX0 (7 + 1) f fd ["_law_script"] (spLaw K) := by
  rw [Bool.and_eq_true] at cb
  obtain ⟨clen, cok⟩ := conB_ok X G cb.1
  obtain ⟨exc, exm⟩ := excB_ok X G cb.2
  have fr : ∀ x : Str, x ∈ free → mg x = none := fun x hx => free_of X G c (List.mem_append_right _ (List.mem_map.mpr ⟨x, hx, rfl⟩))
  have g : GF (tabOf K exs) exs PR w K mg base con cn fns free calls 7 := table clen cok fr (known_of (allk X G c)) (fun x np e => by
    have e' : (fnL ++ [rx])[fnL.length]? = some rx := rfl
    cases e'.symm.trans e
    exact ⟨rfl, roll_ok X G c⟩) exc exm 7
  obtain ⟨da, dfd, d1, d2, d3, d4⟩ := dice_ok (P := PR) (w := w) (base := base) X G c
  have ga : mg "range" = none := fr _ (by decide +kernel)
  have gm : mg "max" = none := fr _ (by decide +kernel)
  have gn : mg "min" = none := fr _ (by decide +kernel)
  have gl : mg "len" = none := fr _ (by decide +kernel)
  refine F.ok scL (fun vs H Q E h => ?_) (fun cdv A outer s H vs Q E hr h => ?_)
  · obtain ⟨_, _, rfl, _⟩ := h
    rfl
  · let X := (cxOf CX0 PR w K mg base lawN' "law" (defScope (top 53)) f cdv A outer s H E).nox
    have xf : XF ⟨tabOf K exs, fun _ _ _ => False⟩ ⟨lawN', cn, fns, free, exs⟩ con calls 7 (defScope (top 53)) X := ⟨rfl, scL.nd, rfl, rfl, hr, g.clen, g.cok, g.free, g.fns, tk_shut (xx := ⟨tabOf K exs, fun _ _ _ => False⟩), g.exc, g.exm⟩
    have xd : XD X := ⟨scL.kind, fun _ => rfl, PassesOwn.never, rfl, rfl⟩
    have sB : PSs X lawFor (rdS ⟨tabOf K exs, fun _ _ _ => False⟩ K lawOwn (exSs con calls lawOwn lawB)) := sndSs lawB lawFor _ _ xd xf ckB
    have sT : PSs X lawRest (rdS ⟨tabOf K exs, fun _ _ _ => False⟩ K lawOwn (exSs con calls lawOwn lawT)) := sndSs lawT lawRest _ _ xd xf ckT
    refine ⟨_, PSs.nox (pss_cons (ps_for xd.po rfl (pi_range1 rfl ga (pa_cons (pe_callB (call_max2 rfl) rfl gm boot_max (pa_cons pe_int (pa_cons (pe_callB (call_min2 rfl) rfl gn boot_min (pa_cons pe_int (pa_cons (pe_callB call_len rfl gl boot_len (pa_cons (pv 0) pa_nil)) pa_nil))) pa_nil))) pa_nil))
      (pg_name (i := 1) scL.nd rfl (.inl rfl)) (pss_cons (ps_set (i := 2) scL.nd rfl (.inl rfl) (pe_call (d4.mono (by decide)) hr rfl d1 d2 d3 .nil pass0 (pa_cons (pv 0) (pa_cons (pv 1) pa_nil)))) sB)) sT), ?_⟩
    obtain ⟨a, ns, rfl, hS, hQ⟩ := h
    exact law_td (Kc := 5) (by decide) (by decide) (by decide) pl.body pl.tail (Nat.le_refl 8) rfl hS hQ
theorem facts (pl : Plain) {w : World} {K : PySem.W.Frag} {h : Heap} {mg : Str → Option Value} {f : Addr} (X : K.In h) (G : h.Ns mainGlobals mg) (hfa : mg ("law" : Str) = some (.ref f)) (c : He.SaysD fa fn K) (cb : (conB K cn con && excB PR K exs) = true) :
    ∃ fd : FuncData, (∀ (s : Shared) (v : Value), BindsTo s fd ⟨[v], []⟩ [("_law_script", v)]) ∧ ∀ base : Heap, K.In base → base.Ns mainGlobals mg → FnOk PR w K mg base CX0 (7 + 1) f fd ["_law_script"] (spLaw K) := by
  obtain ⟨fd, F⟩ := c.def_ 30 (d := D_law) rfl
  have e := hfa.symm.trans (He.glo_ok X G (c.fact 30 (f := .glo "law") rfl))
  cases e
  have b := FunD.bindsA (ps := ["_law_script"]) F fun _ _ _ _ _ _ us hl => match us, hl with | [_], _ => rfl
  exact ⟨fd, fun s v => b s [v] rfl, fun base _ _ => law_ok pl X G c cb F⟩

end K04
section
open PySem PySem.W PySem.Calls PyProof.Rows
theorem K04.holds (pl : K04.Plain) : PySem.Challenge.rw_bailiwick_k04_whole_readers_of_names.Holds := by
  w_on; o_law
  refine HandSHeadRun.head_any (r := OpenLaw.row PySem.Challenge.rw_bailiwick_k04_whole_readers_of_names) (q := view (OpenLaw.row PySem.Challenge.rw_bailiwick_k04_whole_readers_of_names).prog [53]) (H := K04.hk) (ob := K04.ob) (M := 20000) (loose := K04.names) (d := HandSHeadRun.topDef (OpenLaw.row PySem.Challenge.rw_bailiwick_k04_whole_readers_of_names).prog 53) (kwd := []) K04.ob_eq
    (by kernel_rfl) (fun s => by kernel_rfl) K04.run (by kernel_rfl) (by kernel_rfl) (by kernel_rfl) (by rfl) (by first | assumption | decide +kernel) (by decide +kernel) ⟨rfl, rfl, rfl, rfl, rfl, by decide +kernel⟩ ?hw ?hc
  case hw => w_witness2
  case hc =>
    refine L2.walk_ofE (l := PySem.Challenge.rw_bailiwick_k04_whole_readers_of_names) (n := 63) (k := 8) (x := "_law_script") (CX := L2.CX0) rfl (by decide) (by kernel_rfl) ⟨rfl, by decide, by decide⟩ ?F (fun _ _ _ _ z => z)
    intro w mg fa h Y G hmg0
    obtain ⟨K, KX, c, cb⟩ := Y
    have hmg : mg ("law" : PySem.Str) = some (.ref fa) := by
      have e : (HandSHeadRun.topDef (OpenLaw.row PySem.Challenge.rw_bailiwick_k04_whole_readers_of_names).prog 53).name = ("law" : PySem.Str) := by kernel_rfl
      rw [← e]
      exact hmg0
    obtain ⟨fd, hb, hF⟩ := K04.facts pl (w := w) KX G hmg c cb
    exact ⟨K, fd, Ev.spLaw K, KX, hb, fun H a ns hl _ hS => ⟨a, ns, rfl, hS, fun _ => rfl⟩, hF⟩
end


namespace K04
open PySem Ev
abbrev digs : List Nat := [48, 49, 50, 51, 52, 53, 54, 55, 56, 57]
abbrev lets : List Nat := [97, 98, 99, 100, 101, 102, 103, 104, 105, 106, 107, 108, 109, 110, 111, 112, 113, 114, 115, 116, 117, 118, 119, 120, 121, 122]
abbrev marks : List Nat := [44, 61, 43, 34, 92]
theorem g0 : con[0]? = some (.int 4000) := rfl
theorem g1 : con[1]? = some (.str digs) := rfl
theorem g2 : con[2]? = some (.str lets) := rfl
theorem g3 : con[3]? = some (.int 12) := rfl
theorem g4 : con[4]? = some (.str [32]) := rfl
theorem g5 : con[5]? = some (.tup (marks.map fun c => .str [c])) := rfl
theorem g6 : con[6]? = some (.str [92]) := rfl
theorem g7 : con[7]? = some (.str [44]) := rfl
theorem g8 : con[8]? = some (.int 100) := rfl
theorem g9 : con[9]? = some (.str [61]) := rfl
theorem g10 : con[10]? = some (.int 8) := rfl
/-- an exception of the reader -/
def PE_ (i : Nat) : Ex → Prop := fun x => x = ⟨0, .int (i : Nat)⟩
abbrev Rs (α : Type) := Except Nat α
/-- what a def of the reader does -/
def WR (m : M D) (o : Rs D) : Prop := WE m (fun d => o = .ok d) (fun x => ∃ i : Nat, o = .error i ∧ x = ⟨0, .int (i : Nat)⟩)
/-- where a text is read -/
structure TL' (s : List Nat) : Prop where
  len : s.length ≤ 4000
theorem TL'.lim {s : List Nat} (h : TL' s) : s.length ≤ lim := Nat.le_trans h.len (by decide)
theorem ix_n {s : List Nat} {a c : Nat} (hl : s.length ≤ lim) (h : s[a]? = some c) : ixD (.str s) (.int (a : Nat)) = some (.str [c]) := by
  show (if _ then _ else _) = _
  rw [if_pos hl, L2.atI_nat h]
  rfl
theorem drop_c {s : List Nat} {a c : Nat} (h : s[a]? = some c) : s.drop a = c :: s.drop (a + 1) := by
  obtain ⟨hl, e⟩ := List.getElem?_eq_some_iff.mp h
  rw [List.drop_eq_getElem_cons hl, e]
theorem lt_of {s : List Nat} {a c : Nat} (h : s[a]? = some c) : a < s.length := (List.getElem?_eq_some_iff.mp h).1
theorem none_of {s : List Nat} {a : Nat} (h : s[a]? = none) : s.length ≤ a := List.getElem?_eq_none_iff.mp h
/-! ### blanks -/
def blN : List Nat → Nat
  | [] => 0
  | c :: r => if c = 32 then blN r + 1 else 0
def bl (s : List Nat) (a : Nat) : Nat := a + blN (s.drop a)
theorem bl_step {s : List Nat} {a : Nat} (h : s[a]? = some 32) : bl s a = bl s (a + 1) := by
  unfold bl
  rw [drop_c h]
  show a + (if (32 : Nat) = 32 then _ else _) = _
  rw [if_pos rfl]
  omega
theorem bl_stop {s : List Nat} {a : Nat} (h : s[a]? ≠ some 32) : bl s a = a := by
  unfold bl
  cases e : s[a]? with
  | none =>
    rw [List.drop_of_length_le (none_of e)]
    rfl
  | some c =>
    rw [drop_c e]
    show a + (if c = 32 then _ else _) = _
    rw [if_neg (fun z => h (by rw [e, z]))]
    rfl
theorem bl_le {s : List Nat} : ∀ {k a : Nat}, s.length - a ≤ k → a ≤ s.length → bl s a ≤ s.length ∧ a ≤ bl s a ∧ s[bl s a]? ≠ some 32
  | 0, a, h, ha => by
    have : s[a]? = none := List.getElem?_eq_none_iff.mpr (by omega)
    rw [bl_stop (by rw [this]; exact nofun)]
    exact ⟨ha, Nat.le_refl _, by rw [this]; exact nofun⟩
  | k + 1, a, h, ha => by
    by_cases e : s[a]? = some 32
    · have hl := lt_of e
      rw [bl_step e]
      obtain ⟨h1, h2, h3⟩ := bl_le (s := s) (k := k) (a := a + 1) (by omega) (by omega)
      exact ⟨h1, by omega, h3⟩
    · rw [bl_stop e]
      exact ⟨ha, Nat.le_refl _, e⟩
theorem bl_idem {s : List Nat} {a : Nat} (ha : a ≤ s.length) : bl s (bl s a) = bl s a := bl_stop (bl_le (k := s.length) (by omega) ha).2.2
/-- at < len(s) and s[at] == x -/
theorem t_eq {F : Nat → List D → M D} {ρ : Ev.Env} {i j : Nat} {s : List Nat} {a c : Nat} {X : C} (hs : TL' s) (h0 : getV ρ i = some (.str s)) (h1 : getV ρ j = some (.int (a : Nat))) (hX : ∀ P : D → Prop, P (.str [c]) → W (evE con F X ρ) P) :
    W (evE con F (.and_ (.cmp .Lt (.v j) (.bi .len (.cons (.v i) .nil))) (.one (.cmp .Eq (.ix (.v i) (.v j)) X))) ρ) (fun d => d = .bl (decide (s[a]? = some c))) := by
  refine W_and (decide ((a : Int) < (s.length : Nat))) (W_cmp (W_v h1 (W_bi (W_es1 (W_v h0 ⟨_, len_str hs.lim, _, cmp_lt, rfl⟩))))) (fun hq => W_one ?_) (fun hq => ?_)
  · have hlt : a < s.length := by have := of_decide_eq_true hq; omega
    have e : s[a]? = some s[a] := List.getElem?_eq_getElem hlt
    refine W_cmp (W_ix (W_v h0 (W_v h1 ⟨_, ix_n hs.lim e, hX _ ⟨_, cmp_eqS, ?_⟩⟩)))
    rw [e]
    by_cases hz : s[a] = c <;> simp [hz]
  · have : s.length ≤ a := by have := of_decide_eq_false hq; omega
    rw [List.getElem?_eq_none_iff.mpr this]
    rfl
theorem blanks_ok {n : Nat} {s : List Nat} {a : Nat} (hs : TL' s) (ha : a ≤ s.length) : W (call (n + 1) 2 [.str s, .int (a : Nat)]) (fun d => d = .int (bl s a : Nat)) := by
  refine W_call (d := d2) rfl (by decide) rfl ?_
  show W (exSs con _ [] b2 [some (.str s), some (.int (a : Nat)), none]) _
  unfold b2
  have hl := hs.len
  refine W_set (W_evM (W_v rfl (W_whls ?_)))
  refine W_whl (fun m ρ => ∃ b : Nat, b ≤ s.length ∧ m = s.length - b ∧ bl s b = bl s a ∧ ρ = [some (.str s), some (.int (a : Nat)), some (.int (b : Nat))]) (fun m ρ hi => ?_) _ _ _ (show s.length - a < 100000 by omega) ⟨a, ha, rfl, rfl, rfl⟩
  obtain ⟨b, hb, rfl, hbl, rfl⟩ := hi
  refine (t_eq (i := 0) (j := 2) (c := 32) hs rfl rfl (fun P h => W_g g4 h)).bind fun x hx => ?_
  subst hx
  refine W.ret ?_
  by_cases e : s[b]? = some 32
  · rw [decide_eq_true e, if_pos rfl]
    have := lt_of e
    exact W_set (W_evM (W_bin (W_v rfl (W_c ⟨_, add_int, W_nil ⟨s.length - (b + 1), by omega, b + 1, by omega, rfl, by rw [← hbl, bl_step e], rfl⟩⟩))))
  · rw [decide_eq_false e, if_neg Bool.false_ne_true]
    rw [bl_stop e] at hbl
    refine W_rets (W_v rfl ?_)
    rw [← hbl]
theorem lblanks_ok {n : Nat} {s : List Nat} {a : Nat} (hs : TL' s) (ha : a ≤ s.length) : W (call (n + 1) 23 [.str s, .int (a : Nat)]) (fun d => d = .int (bl s a : Nat)) := by
  refine W_call (d := d23) rfl (by decide) rfl ?_
  show W (exSs con _ [] b23 [some (.str s), some (.int (a : Nat))]) _
  unfold b23
  have hl := hs.len
  refine W_whls ?_
  refine W_whl (fun m ρ => ∃ b : Nat, b ≤ s.length ∧ m = s.length - b ∧ bl s b = bl s a ∧ ρ = [some (.str s), some (.int (b : Nat))]) (fun m ρ hi => ?_) _ _ _ (show s.length - a < 100000 by omega) ⟨a, ha, rfl, rfl, rfl⟩
  obtain ⟨b, hb, rfl, hbl, rfl⟩ := hi
  refine (t_eq (i := 0) (j := 1) (c := 32) hs rfl rfl (fun P h => W_c h)).bind fun x hx => ?_
  subst hx
  refine W.ret ?_
  by_cases e : s[b]? = some 32
  · rw [decide_eq_true e, if_pos rfl]
    have := lt_of e
    exact W_set (W_evM (W_bin (W_v rfl (W_c ⟨_, add_int, W_nil ⟨s.length - (b + 1), by omega, b + 1, by omega, rfl, by rw [← hbl, bl_step e], rfl⟩⟩))))
  · rw [decide_eq_false e, if_neg Bool.false_ne_true]
    rw [bl_stop e] at hbl
    refine W_rets (W_v rfl ?_)
    rw [← hbl]
/-! ### words -/
def isL (c : Nat) : Bool := decide (c ∈ lets)
def isDg (c : Nat) : Bool := decide (c ∈ digs)
def wn (first : Bool) : List Nat → Nat
  | [] => 0
  | c :: r => if isL c || (!first && isDg c) then wn false r + 1 else 0
def wordP (s : List Nat) (a : Nat) : Rs (List Nat × Nat) :=
  if wn true (s.drop a) = 0 then .error a else if wn true (s.drop a) ≤ 12 then .ok ((s.drop a).take (wn true (s.drop a)), a + wn true (s.drop a)) else .error (a + 12)
/-- the char at an index goes on with a word -/
def goes (s : List Nat) (f : Bool) (b : Nat) : Bool := match s[b]? with
  | some c => isL c || (!f && isDg c)
  | none => false
theorem wn_go {s : List Nat} {f : Bool} {b : Nat} (h : goes s f b = true) : wn f (s.drop b) = wn false (s.drop (b + 1)) + 1 ∧ b < s.length := by
  unfold goes at h
  cases e : s[b]? with
  | none => rw [e] at h; cases h
  | some c =>
    rw [e] at h
    rw [drop_c e]
    refine ⟨?_, lt_of e⟩
    show (if _ then _ else _) = _
    rw [if_pos h]
theorem wn_no {s : List Nat} {f : Bool} {b : Nat} (h : goes s f b = false) : wn f (s.drop b) = 0 := by
  unfold goes at h
  cases e : s[b]? with
  | none =>
    rw [List.drop_of_length_le (none_of e)]
    rfl
  | some c =>
    rw [e] at h
    rw [drop_c e]
    show (if _ then _ else _) = _
    have h' : (isL c || (!f && isDg c)) = false := h
    rw [if_neg (by rw [h']; exact Bool.false_ne_true)]
theorem let_iff {c : Nat} : isL c = (decide (97 ≤ c) && decide (c ≤ 122)) := by
  by_cases h : c < 123
  · have key : ∀ c, c < 123 → isL c = (decide (97 ≤ c) && decide (c ≤ 122)) := by decide +kernel
    exact key c h
  · have h1 : ∀ x ∈ lets, x ≤ 122 := by decide
    have : c ∉ lets := fun z => by have := h1 c z; omega
    unfold isL
    rw [decide_eq_false this, decide_eq_false (show ¬ c ≤ 122 by omega), Bool.and_false]
theorem dig_iff {c : Nat} : isDg c = (decide (48 ≤ c) && decide (c ≤ 57)) := by
  by_cases h : c < 58
  · have key : ∀ c, c < 58 → isDg c = (decide (48 ≤ c) && decide (c ≤ 57)) := by decide +kernel
    exact key c h
  · have h1 : ∀ x ∈ digs, x ≤ 57 := by decide
    have : c ∉ digs := fun z => by have := h1 c z; omega
    unfold isDg
    rw [decide_eq_false this, decide_eq_false (show ¬ c ≤ 57 by omega), Bool.and_false]
theorem cut_ab {s : List Nat} {i j : Nat} (hl : s.length ≤ lim) (hj : i + j ≤ s.length) : slD (.str s) (some (i : Nat)) (some ((i + j : Nat) : Int)) = some (.str ((s.drop i).take j)) := by
  show (if _ then _ else _) = _
  rw [if_pos hl]
  unfold cutL
  rw [HT.sIx_nat, HT.sIx_nat, Nat.min_eq_left (show i ≤ s.length by omega), Nat.min_eq_left hj]
  congr 3
  omega
def wD (p : List Nat × Nat) : D := .tup [.str p.1, .int (p.2 : Nat)]
theorem word_ok {n : Nat} {s : List Nat} {a : Nat} (hs : TL' s) (ha : a ≤ s.length) : WR (call (n + 1) 1 [.str s, .int (a : Nat)]) ((wordP s a).map wD) := by
  have hl := hs.len
  have hl' := hs.lim
  refine WE_call (d := d1) rfl (by decide) rfl ?_
  show WE (exSs con _ [] b1 [some (.str s), some (.int (a : Nat)), none]) _ _
  unfold b1
  have t0 : W (evE con (callD con fs 28 n) (.or_ (.cmp .Eq (.v 1) (.bi .len (.cons (.v 0) .nil))) (.one (.cmp .NotIn (.ix (.v 0) (.v 1)) (.g 2)))) [some (.str s), some (.int (a : Nat)), none]) (fun d => d = .bl (!goes s true a)) := by
    refine W_or ((a : Int) == (s.length : Nat)) (W_cmp (W_v rfl (W_bi (W_es1 (W_v rfl ⟨_, len_str hl', _, cmp_eqI, rfl⟩))))) (fun hq => W_one ?_) (fun hq => ?_)
    · have hne : (a : Int) ≠ (s.length : Nat) := by simpa using hq
      have hlt : a < s.length := by omega
      have e : s[a]? = some s[a] := List.getElem?_eq_getElem hlt
      refine W_cmp (W_ix (W_v rfl (W_v rfl ⟨_, ix_n hl' e, W_g g2 ⟨_, cmp_nin, ?_⟩⟩)))
      unfold goes
      rw [e]
      simp [isL]
    · have : a = s.length := by have : (a : Int) = (s.length : Nat) := by simpa using hq
                                omega
      unfold goes
      rw [List.getElem?_eq_none_iff.mpr (by omega)]
      rfl
  cases hg : goes s true a with
  | false =>
    rw [hg] at t0
    refine WE_then t0 (WE_rsx (W_v rfl ⟨a, ?_, rfl⟩))
    unfold wordP
    rw [if_pos (wn_no hg)]
    rfl
  | true =>
    rw [hg] at t0
    obtain ⟨hw, hlt⟩ := wn_go hg
    refine WE_skip t0 (WE_set (W_evM (W_bin (W_v rfl (W_c ⟨_, add_int, ?_⟩)))).e)
    refine WE_whls (WE_whl (fun m ρ => ∃ j : Nat, 1 ≤ j ∧ j ≤ 12 ∧ a + j ≤ s.length ∧ m = s.length - (a + j) ∧ wn true (s.drop a) = j + wn false (s.drop (a + j)) ∧ ρ = [some (.str s), some (.int (a : Nat)), some (.int ((a + j : Nat) : Int))]) (fun m ρ hi => ?_) _ _ _ (show s.length - (a + 1) < 100000 by omega) ⟨1, by omega, by omega, by omega, rfl, by omega, rfl⟩)
    obtain ⟨j, h1, h12, hle, rfl, hn, rfl⟩ := hi
    have t1 : W (evE con (callD con fs 28 n) (.and_ (.cmp .Lt (.v 2) (.bi .len (.cons (.v 0) .nil))) (.one (.or_ (.cmp .In (.ix (.v 0) (.v 2)) (.g 2)) (.one (.cmp .In (.ix (.v 0) (.v 2)) (.g 1)))))) [some (.str s), some (.int (a : Nat)), some (.int ((a + j : Nat) : Int))]) (fun d => d = .bl (goes s false (a + j))) := by
      refine W_and (decide (((a + j : Nat) : Int) < (s.length : Nat))) (W_cmp (W_v rfl (W_bi (W_es1 (W_v rfl ⟨_, len_str hl', _, cmp_lt, rfl⟩))))) (fun hq => W_one ?_) (fun hq => ?_)
      · have hlt : a + j < s.length := by have := of_decide_eq_true hq; omega
        have e : s[a + j]? = some s[a + j] := List.getElem?_eq_getElem hlt
        refine W_or (isL s[a + j]) (W_cmp (W_ix (W_v rfl (W_v rfl ⟨_, ix_n hl' e, W_g g2 ⟨_, cmp_in, rfl⟩⟩)))) (fun hq => W_one (W_cmp (W_ix (W_v rfl (W_v rfl ⟨_, ix_n hl' e, W_g g1 ⟨_, cmp_in, ?_⟩⟩))))) (fun hq => ?_)
        · unfold goes
          rw [e]
          show _ = D.bl (isL s[a + j] || (!false && isDg s[a + j]))
          rw [hq]
          rfl
        · unfold goes
          rw [e]
          show _ = D.bl (isL s[a + j] || (!false && isDg s[a + j]))
          rw [hq]
          rfl
      · unfold goes
        rw [List.getElem?_eq_none_iff.mpr (by have := of_decide_eq_false hq; omega)]
    refine t1.bind fun x hx => ?_
    subst hx
    refine W.ret ?_
    show if goes s false (a + j) = true then _ else _
    cases hg2 : goes s false (a + j) with
    | true =>
      obtain ⟨hw2, hlt2⟩ := wn_go hg2
      rw [if_pos rfl]
      by_cases hj : j = 12
      · refine WE_then (W_cmp (W_bin (W_v rfl (W_v rfl ⟨_, sub_int, W_g g3 ⟨_, cmp_eqI, ?_⟩⟩)))) (WE_rsx (W_v rfl ⟨a + 12, ?_, by rw [hj]⟩))
        · congr 1
          simp
          omega
        · unfold wordP
          rw [if_neg (by omega), if_neg (by omega)]
          rfl
      · refine WE_skip (W_cmp (W_bin (W_v rfl (W_v rfl ⟨_, sub_int, W_g g3 ⟨_, cmp_eqI, ?_⟩⟩)))) (WE_set (W_evM (W_bin (W_v rfl (W_c ⟨_, add_int, ?_⟩)))).e)
        · congr 1
          simp
          omega
        · exact WE_nil ⟨s.length - (a + (j + 1)), by omega, j + 1, by omega, by omega, by omega, rfl, by rw [hn, hw2]; show _ = j + 1 + wn false (s.drop (a + j + 1)); omega, rfl⟩
    | false =>
      rw [if_neg Bool.false_ne_true]
      have hz := wn_no hg2
      have hnj : wn true (s.drop a) = j := by omega
      refine WE_rets (W_tup (W_es (W_sl (W_v rfl (W_co (W_v rfl ⟨_, rfl, W_co (W_v rfl ⟨_, rfl, _, cut_ab hl' hle, W_es1 (W_v rfl ⟨(show 2 ≤ lim by decide), ?_ ⟩)⟩)⟩)))))).e
      unfold wordP
      rw [if_neg (by omega), if_pos (by omega), hnj]
      rfl
end K04

namespace K04
open PySem Ev
theorem le1 {a b : Nat} : cmpD .LtE (.str [a]) (.str [b]) = some (decide (a ≤ b)) := by
  by_cases h : a ≤ b
  · rw [leS h, decide_eq_true h]
  · have h1 : ¬ ([a] : List Nat) < [b] := by
      rw [List.cons_lt_cons_iff]
      simp
      omega
    have h2 : ([b] : List Nat) < [a] := by
      rw [List.cons_lt_cons_iff]
      simp
      omega
    simp only [cmpD, ordD, Option.map_some, decide_eq_false h]
    rw [if_neg h1, if_pos h2]
    rfl
def encW : Rs (List Nat × Nat) → D
  | .ok p => .tup [.str p.1, .int (p.2 : Nat)]
  | .error i => .tup [.non, .int (i : Nat)]
theorem lword_ok {n : Nat} {s : List Nat} {a : Nat} (hs : TL' s) (ha : a ≤ s.length) : W (call (n + 1) 24 [.str s, .int (a : Nat)]) (fun d => d = encW (wordP s a)) := by
  have hl := hs.len
  have hl' := hs.lim
  refine W_call (d := d24) rfl (by decide) rfl ?_
  show W (exSs con _ [] b24 [some (.str s), some (.int (a : Nat)), none]) _
  unfold b24
  refine W_set (W_evM (W_v rfl ?_))
  refine W_whls (W_whl (fun m ρ => ∃ j : Nat, j ≤ 12 ∧ a + j ≤ s.length ∧ m = s.length - (a + j) ∧ wn true (s.drop a) = j + wn (decide (j = 0)) (s.drop (a + j)) ∧ ρ = [some (.str s), some (.int (a : Nat)), some (.int ((a + j : Nat) : Int))]) (fun m ρ hi => ?_) _ _ _ (show s.length - (a + 0) < 100000 by omega) ⟨0, by omega, by omega, rfl, by simp, rfl⟩)
  obtain ⟨j, h12, hle, rfl, hn, rfl⟩ := hi
  have t1 : W (evE con (callD con fs 28 n) (.and_ (.cmp .Lt (.v 2) (.bi .len (.cons (.v 0) .nil))) (.one (.or_ (.chn .LtE .LtE (.c (.str [97])) (.ix (.v 0) (.v 2)) (.c (.str [122]))) (.one (.and_ (.cmp .Gt (.v 2) (.v 1)) (.one (.chn .LtE .LtE (.c (.str [48])) (.ix (.v 0) (.v 2)) (.c (.str [57]))))))))) [some (.str s), some (.int (a : Nat)), some (.int ((a + j : Nat) : Int))]) (fun d => d = .bl (goes s (decide (j = 0)) (a + j))) := by
    refine W_and (decide (((a + j : Nat) : Int) < (s.length : Nat))) (W_cmp (W_v rfl (W_bi (W_es1 (W_v rfl ⟨_, len_str hl', _, cmp_lt, rfl⟩))))) (fun hq => W_one ?_) (fun hq => ?_)
    · have hlt : a + j < s.length := by have := of_decide_eq_true hq; omega
      have e : s[a + j]? = some s[a + j] := List.getElem?_eq_getElem hlt
      have hgo : goes s (decide (j = 0)) (a + j) = (isL s[a + j] || (!decide (j = 0) && isDg s[a + j])) := by unfold goes; rw [e]
      rw [hgo]
      generalize s[a + j] = c at e
      refine W_or (isL c) (W_chn (W_c (W_ix (W_v rfl (W_v rfl ⟨_, ix_n hl' e, _, le1, fun hk => W_c ⟨_, le1, ?_⟩, fun hk => ?_⟩))))) (fun hk => W_one ?_) (fun hk => by rw [hk]; rfl)
      · rw [let_iff, hk]; rfl
      · rw [let_iff, hk]; rfl
      · rw [hk]
        refine W_and (!decide (j = 0)) (W_cmp (W_v rfl (W_v rfl ⟨_, cmp_gt, ?_⟩))) (fun hj => W_one (W_chn (W_c (W_ix (W_v rfl (W_v rfl ⟨_, ix_n hl' e, _, le1, fun hk => W_c ⟨_, le1, ?_⟩, fun hk => ?_⟩)))))) (fun hj => by rw [hj]; rfl)
        · congr 1
          by_cases hj : j = 0
          · simp [hj]
          · rw [decide_eq_false hj, decide_eq_true (by omega)]; rfl
        · rw [hj, dig_iff, hk]; rfl
        · rw [hj, dig_iff, hk]; rfl
    · unfold goes
      rw [List.getElem?_eq_none_iff.mpr (by have := of_decide_eq_false hq; omega)]
  refine t1.bind fun x hx => ?_
  subst hx
  refine W.ret ?_
  show if goes s (decide (j = 0)) (a + j) = true then _ else _
  cases hg2 : goes s (decide (j = 0)) (a + j) with
  | true =>
    obtain ⟨hw2, hlt2⟩ := wn_go hg2
    rw [if_pos rfl]
    by_cases hj : j = 12
    · refine W_then (W_cmp (W_bin (W_v rfl (W_v rfl ⟨_, sub_int, W_c ⟨_, cmp_eqI, ?_⟩⟩)))) (W_rets (W_tup (W_es (W_c (W_es1 (W_v rfl ⟨(show 2 ≤ lim by decide), ?_⟩))))))
      · congr 1
        simp
        omega
      · unfold wordP
        rw [if_neg (by omega), if_neg (by omega), hj]
        rfl
    · refine W_skip (W_cmp (W_bin (W_v rfl (W_v rfl ⟨_, sub_int, W_c ⟨_, cmp_eqI, ?_⟩⟩)))) (W_set (W_evM (W_bin (W_v rfl (W_c ⟨_, add_int, ?_⟩)))))
      · congr 1
        simp
        omega
      · exact W_nil ⟨s.length - (a + (j + 1)), by omega, j + 1, by omega, by omega, rfl, by rw [hn, hw2]; show _ = j + 1 + wn false (s.drop (a + j + 1)); omega, rfl⟩
  | false =>
    rw [if_neg Bool.false_ne_true]
    have hz := wn_no hg2
    have hnj : wn true (s.drop a) = j := by omega
    have sl : W (evE con (callD con fs 28 n) (.ite (.cmp .Gt (.v 2) (.v 1)) (.sl (.v 0) (.some (.v 1)) (.some (.v 2))) (.c (.non))) [some (.str s), some (.int (a : Nat)), some (.int ((a + j : Nat) : Int))]) (fun d => d = if j = 0 then .non else .str ((s.drop a).take j)) := by
      refine W_ite (W_cmp (W_v rfl (W_v rfl ⟨_, cmp_gt, _, rfl, fun hq => ?_, fun hq => ?_⟩)))
      · have := of_decide_eq_true hq
        rw [if_neg (by omega)]
        exact W_sl (W_v rfl (W_co (W_v rfl ⟨_, rfl, W_co (W_v rfl ⟨_, rfl, _, cut_ab hl' hle, rfl⟩)⟩)))
      · have := of_decide_eq_false hq
        rw [if_pos (by omega)]
        exact W_c rfl
    refine W_rets (W_tup (W_es (sl.to (W_es1 (W_v rfl ⟨(show 2 ≤ lim by decide), ?_⟩)))))
    unfold wordP
    by_cases hj : j = 0
    · rw [if_pos hj, if_pos (by omega), hj]
      rfl
    · rw [if_neg hj, if_neg (by omega), if_pos (by omega), hnj]
      rfl
/-! ### signs -/
theorem in_marks {c : Nat} : cmpD .In (.str [c]) (.tup (marks.map fun c => .str [c])) = some (decide (c ∈ marks)) := by
  simp [cmpD, inD, flatD, eqEach, eqD, beq_flip]
theorem nin_marks {c : Nat} : cmpD .NotIn (.str [c]) (.tup (marks.map fun c => .str [c])) = some (!decide (c ∈ marks)) := by
  have := in_marks (c := c)
  simp only [cmpD] at this ⊢
  rw [this]
  rfl
def sgnP (s : List Nat) (a c : Nat) : Rs (Nat × Nat) :=
  if c = 92 then (match s[a + 1]? with
    | some d => if d = 32 ∨ d ∈ marks then .ok (d, a + 2) else .error (a + 1)
    | none => .error (a + 1))
  else if c ∈ marks then .error a else .ok (c, a + 1)
def sD (p : Nat × Nat) : D := .tup [.str [p.1], .int (p.2 : Nat)]
def encS : Rs (Nat × Nat) → D
  | .ok p => .tup [.str [p.1], .int (p.2 : Nat)]
  | .error i => .tup [.non, .int (i : Nat)]
theorem sign_ok {n : Nat} {s : List Nat} {a c : Nat} (hs : TL' s) (h : s[a]? = some c) : WR (call (n + 1) 3 [.str s, .int (a : Nat)]) ((sgnP s a c).map sD) := by
  have hl := hs.len
  have hl' := hs.lim
  have hlt := lt_of h
  refine WE_call (d := d3) rfl (by decide) rfl ?_
  show WE (exSs con _ [] b3 [some (.str s), some (.int (a : Nat))]) _ _
  unfold b3
  have ix0 := ix_n hl' h
  by_cases h92 : c = 92
  · refine WE_skip (W_cmp (W_ix (W_v rfl (W_v rfl ⟨_, ix0, W_g g6 ⟨_, cmp_neS, by simp [h92]⟩⟩)))) ?_
    cases e1 : s[a + 1]? with
    | none =>
      have := none_of e1
      refine WE_then (W_or true (W_cmp (W_bin (W_v rfl (W_c ⟨_, add_int, W_bi (W_es1 (W_v rfl ⟨_, len_str hl', _, cmp_eqI, ?_⟩))⟩)))) (fun z => by cases z) (fun _ => rfl)) (WE_rsx (W_bin (W_v rfl (W_c ⟨_, add_int, a + 1, ?_, rfl⟩))))
      · congr 1
        simp
        omega
      · unfold sgnP
        rw [if_pos h92, e1]
        rfl
    | some d =>
      have hlt1 := lt_of e1
      have ix1 : ixD (.str s) (.int ((a : Int) + 1)) = some (.str [d]) := ix_n (a := a + 1) hl' e1
      have t0 : ∀ {F : Nat → List D → M D}, W (evE con F (.cmp .Eq (.bin .Add (.v 1) (.c (.int 1))) (.bi .len (.cons (.v 0) .nil))) [some (.str s), some (.int (a : Nat))]) (fun x => x = .bl false) := by
        intro F
        refine W_cmp (W_bin (W_v rfl (W_c ⟨_, add_int, W_bi (W_es1 (W_v rfl ⟨_, len_str hl', _, cmp_eqI, ?_⟩))⟩)))
        congr 1
        simp
        omega
      have t1 : W (evE con (callD con fs 28 n) (.and_ (.cmp .NotEq (.ix (.v 0) (.bin .Add (.v 1) (.c (.int 1)))) (.g 4)) (.one (.cmp .NotIn (.ix (.v 0) (.bin .Add (.v 1) (.c (.int 1)))) (.g 5)))) [some (.str s), some (.int (a : Nat))]) (fun x => x = .bl (!decide (d = 32 ∨ d ∈ marks))) := by
        refine W_and (!([d] == [32])) (W_cmp (W_ix (W_v rfl (W_bin (W_v rfl (W_c ⟨_, add_int, _, ix1, W_g g4 ⟨_, cmp_neS, rfl⟩⟩)))))) (fun hq => W_one (W_cmp (W_ix (W_v rfl (W_bin (W_v rfl (W_c ⟨_, add_int, _, ix1, W_g g5 ⟨_, nin_marks, ?_⟩⟩))))))) (fun hq => ?_)
        · have : d ≠ 32 := by simpa using hq
          congr 2
          apply decide_eq_decide.mpr
          exact ⟨.inr, fun z => z.elim (fun z => absurd z this) id⟩
        · have : d = 32 := by simpa using hq
          rw [decide_eq_true (.inl this)]
          rfl
      by_cases hd : d = 32 ∨ d ∈ marks
      · rw [decide_eq_true hd] at t1
        refine WE_skip (W_or false t0 (fun _ => W_one t1) (fun z => by cases z)) (WE_retW (W_tup (W_es (W_ix (W_v rfl (W_bin (W_v rfl (W_c ⟨_, add_int, _, ix1, W_es1 (W_bin (W_v rfl (W_c ⟨_, add_int, (show 2 ≤ lim by decide), ?_ ⟩)))⟩))))))))
        unfold sgnP
        rw [if_pos h92, e1]
        show Except.map sD (if d = 32 ∨ d ∈ marks then .ok (d, a + 2) else .error (a + 1)) = _
        rw [if_pos hd]
        rfl
      · rw [decide_eq_false hd] at t1
        refine WE_then (W_or false t0 (fun _ => W_one t1) (fun z => by cases z)) (WE_rsx (W_bin (W_v rfl (W_c ⟨_, add_int, a + 1, ?_, rfl⟩))))
        unfold sgnP
        rw [if_pos h92, e1]
        show Except.map sD (if d = 32 ∨ d ∈ marks then .ok (d, a + 2) else .error (a + 1)) = _
        rw [if_neg hd]
        rfl
  · refine WE_then (W_cmp (W_ix (W_v rfl (W_v rfl ⟨_, ix0, W_g g6 ⟨_, cmp_neS, by simp [h92]⟩⟩)))) ?_
    have ti : W (evE con (callD con fs 28 n) (.cmp .In (.ix (.v 0) (.v 1)) (.g 5)) [some (.str s), some (.int (a : Nat))]) (fun x => x = .bl (decide (c ∈ marks))) := W_cmp (W_ix (W_v rfl (W_v rfl ⟨_, ix0, W_g g5 ⟨_, in_marks, rfl⟩⟩)))
    by_cases hm : c ∈ marks
    · rw [decide_eq_true hm] at ti
      refine WE_then ti (WE_rsx (W_v rfl ⟨a, ?_, rfl⟩))
      unfold sgnP
      rw [if_neg h92, if_pos hm]
      rfl
    · rw [decide_eq_false hm] at ti
      refine WE_skip ti (WE_retW (W_tup (W_es (W_ix (W_v rfl (W_v rfl ⟨_, ix0, W_es1 (W_bin (W_v rfl (W_c ⟨_, add_int, (show 2 ≤ lim by decide), ?_ ⟩)))⟩))))))
      unfold sgnP
      rw [if_neg h92, if_neg hm]
      rfl
theorem unmarked_ok {n : Nat} {s : List Nat} {a c : Nat} (hs : TL' s) (h : s[a]? = some c) (h44 : c ≠ 44) : W (call (n + 1) 25 [.str s, .int (a : Nat)]) (fun d => d = encS (sgnP s a c)) := by
  have hl := hs.len
  have hl' := hs.lim
  have hlt := lt_of h
  refine W_call (d := d25) rfl (by decide) rfl ?_
  show W (exSs con _ [] b25 [some (.str s), some (.int (a : Nat))]) _
  unfold b25
  have ix0 := ix_n hl' h
  have ti : W (evE con (callD con fs 28 n) (.cmp .In (.ix (.v 0) (.v 1)) (.c (.str [61, 43, 34]))) [some (.str s), some (.int (a : Nat))]) (fun x => x = .bl (decide (c ∈ [61, 43, 34]))) := W_cmp (W_ix (W_v rfl (W_v rfl ⟨_, ix0, W_c ⟨_, cmp_in, rfl⟩⟩)))
  by_cases h92 : c = 92
  · rw [decide_eq_false (by rw [h92]; decide)] at ti
    refine W_skip ti (W_skip (W_cmp (W_ix (W_v rfl (W_v rfl ⟨_, ix0, W_c ⟨_, cmp_neS, by simp [h92]⟩⟩)))) ?_)
    cases e1 : s[a + 1]? with
    | none =>
      have := none_of e1
      refine W_then (W_or true (W_cmp (W_bin (W_v rfl (W_c ⟨_, add_int, W_bi (W_es1 (W_v rfl ⟨_, len_str hl', _, cmp_eqI, ?_⟩))⟩)))) (fun z => by cases z) (fun _ => rfl)) (W_rets (W_tup (W_es (W_c (W_es1 (W_bin (W_v rfl (W_c ⟨_, add_int, (show 2 ≤ lim by decide), ?_⟩))))))))
      · congr 1
        simp
        omega
      · unfold sgnP
        rw [if_pos h92, e1]
        rfl
    | some d =>
      have hlt1 := lt_of e1
      have ix1 : ixD (.str s) (.int ((a : Int) + 1)) = some (.str [d]) := ix_n (a := a + 1) hl' e1
      have t0 : ∀ {F : Nat → List D → M D}, W (evE con F (.cmp .Eq (.bin .Add (.v 1) (.c (.int 1))) (.bi .len (.cons (.v 0) .nil))) [some (.str s), some (.int (a : Nat))]) (fun x => x = .bl false) := by
        intro F
        refine W_cmp (W_bin (W_v rfl (W_c ⟨_, add_int, W_bi (W_es1 (W_v rfl ⟨_, len_str hl', _, cmp_eqI, ?_⟩))⟩)))
        congr 1
        simp
        omega
      have t1 : W (evE con (callD con fs 28 n) (.cmp .NotIn (.ix (.v 0) (.bin .Add (.v 1) (.c (.int 1)))) (.c (.str [44, 61, 43, 34, 92, 32]))) [some (.str s), some (.int (a : Nat))]) (fun x => x = .bl (!decide (d = 32 ∨ d ∈ marks))) := by
        refine W_cmp (W_ix (W_v rfl (W_bin (W_v rfl (W_c ⟨_, add_int, _, ix1, W_c ⟨_, cmp_nin, ?_⟩⟩)))))
        congr 2
        apply decide_eq_decide.mpr
        simp only [marks, List.mem_cons, List.not_mem_nil, or_false]
        omega
      by_cases hd : d = 32 ∨ d ∈ marks
      · rw [decide_eq_true hd] at t1
        refine W_skip (W_or false t0 (fun _ => W_one t1) (fun z => by cases z)) (W_rets (W_tup (W_es (W_ix (W_v rfl (W_bin (W_v rfl (W_c ⟨_, add_int, _, ix1, W_es1 (W_bin (W_v rfl (W_c ⟨_, add_int, (show 2 ≤ lim by decide), ?_ ⟩)))⟩))))))))
        unfold sgnP
        rw [if_pos h92, e1]
        show _ = encS (if d = 32 ∨ d ∈ marks then .ok (d, a + 2) else .error (a + 1))
        rw [if_pos hd]
        rfl
      · rw [decide_eq_false hd] at t1
        refine W_then (W_or false t0 (fun _ => W_one t1) (fun z => by cases z)) (W_rets (W_tup (W_es (W_c (W_es1 (W_bin (W_v rfl (W_c ⟨_, add_int, (show 2 ≤ lim by decide), ?_⟩))))))))
        unfold sgnP
        rw [if_pos h92, e1]
        show _ = encS (if d = 32 ∨ d ∈ marks then .ok (d, a + 2) else .error (a + 1))
        rw [if_neg hd]
        rfl
  · have hmm : decide (c ∈ [61, 43, 34]) = decide (c ∈ marks) := by
      apply decide_eq_decide.mpr
      simp only [marks, List.mem_cons, List.not_mem_nil, or_false]
      omega
    rw [hmm] at ti
    by_cases hm : c ∈ marks
    · rw [decide_eq_true hm] at ti
      refine W_then ti (W_rets (W_tup (W_es (W_c (W_es1 (W_v rfl ⟨(show 2 ≤ lim by decide), ?_⟩))))))
      unfold sgnP
      rw [if_neg h92, if_pos hm]
      rfl
    · rw [decide_eq_false hm] at ti
      refine W_skip ti (W_then (W_cmp (W_ix (W_v rfl (W_v rfl ⟨_, ix0, W_c ⟨_, cmp_neS, by simp [h92]⟩⟩)))) (W_rets (W_tup (W_es (W_ix (W_v rfl (W_v rfl ⟨_, ix0, W_es1 (W_bin (W_v rfl (W_c ⟨_, add_int, (show 2 ≤ lim by decide), ?_ ⟩)))⟩)))))))
      unfold sgnP
      rw [if_neg h92, if_neg hm]
      rfl
end K04

namespace K04
open PySem Ev
def finP (f : List Nat) (a : Nat) : Rs (List Nat × Nat) := if f = [] then .error a else .ok (f, a)
def valP (s : List Nat) : Nat → List Nat → Nat → Nat → Rs (List Nat × Nat)
  | 0, f, _, a => finP f a
  | k + 1, f, b, a => match s[a]? with
    | none => finP f a
    | some c => if c = 44 then finP f a else if c = 32 then valP s k f (b + 1) (a + 1) else match sgnP s a c with
      | .error i => .error i
      | .ok (d, e) => if 100 ≤ f.length + b then .error a else valP s k (f ++ List.replicate b 32 ++ [d]) 0 e
theorem sgn_le {s : List Nat} {a c d e : Nat} (h : s[a]? = some c) (hs : sgnP s a c = .ok (d, e)) : a < e ∧ e ≤ s.length := by
  have hl := lt_of h
  unfold sgnP at hs
  split at hs
  · split at hs
    · rename_i e1
      have := lt_of e1
      split at hs
      · cases hs; omega
      · cases hs
    · cases hs
  · split at hs
    · cases hs
    · cases hs; omega
theorem val_end {s : List Nat} {k : Nat} {f : List Nat} {b a : Nat} (h : s[a]? = none ∨ s[a]? = some 44) : valP s k f b a = finP f a := by
  cases k with
  | zero => rfl
  | succ k =>
    rw [valP]
    rcases h with h | h
    · rw [h]
    · rw [h]
      rfl
/-- at < len(s) and s[at] != "," -/
theorem t_ne {F : Nat → List D → M D} {ρ : Ev.Env} {i j : Nat} {s : List Nat} {a : Nat} {X : C} (hs : TL' s) (h0 : getV ρ i = some (.str s)) (h1 : getV ρ j = some (.int (a : Nat))) (hX : ∀ P : D → Prop, P (.str [44]) → W (evE con F X ρ) P) :
    W (evE con F (.and_ (.cmp .Lt (.v j) (.bi .len (.cons (.v i) .nil))) (.one (.cmp .NotEq (.ix (.v i) (.v j)) X))) ρ) (fun d => d = .bl (!decide (s[a]? = none ∨ s[a]? = some 44))) := by
  refine W_and (decide ((a : Int) < (s.length : Nat))) (W_cmp (W_v h1 (W_bi (W_es1 (W_v h0 ⟨_, len_str hs.lim, _, cmp_lt, rfl⟩))))) (fun hq => W_one ?_) (fun hq => ?_)
  · have hlt : a < s.length := by have := of_decide_eq_true hq; omega
    have e : s[a]? = some s[a] := List.getElem?_eq_getElem hlt
    refine W_cmp (W_ix (W_v h0 (W_v h1 ⟨_, ix_n hs.lim e, hX _ ⟨_, cmp_neS, ?_⟩⟩)))
    rw [e]
    by_cases hz : s[a] = 44 <;> simp [hz]
  · have : s.length ≤ a := by have := of_decide_eq_false hq; omega
    rw [List.getElem?_eq_none_iff.mpr this]
    rfl
theorem rep32 {b : Nat} : (List.replicate b [32]).flatten = List.replicate b 32 := by
  induction b with
  | zero => rfl
  | succ b ih => rw [List.replicate_succ, List.flatten_cons, ih, List.replicate_succ]; rfl
theorem value_ok {n : Nat} {s : List Nat} {a : Nat} (hs : TL' s) (ha : a ≤ s.length) : WR (call (n + 2) 4 [.str s, .int (a : Nat)]) ((valP s s.length [] 0 a).map wD) := by
  have hl := hs.len
  have hl' := hs.lim
  refine WE_call (d := d4) rfl (by decide) rfl ?_
  show WE (exSs con _ [] b4 [some (.str s), some (.int (a : Nat)), none, none, none, none, none]) _ _
  unfold b4
  generalize hR : valP s s.length [] 0 a = R
  refine WE_par (W_evMs (W_es (W_c (W_es (W_c (W_es1 (W_v rfl ⟨_, rfl, ?_⟩))))))).e
  refine WE_whls (WE_whl (fun m ρ => ∃ (f : List Nat) (b x k : Nat) (o5 o6 : Option D), x ≤ s.length ∧ m = s.length - x ∧ s.length ≤ x + k ∧ f.length ≤ 100 ∧ b ≤ x ∧ valP s k f b x = R ∧ ρ = [some (.str s), some (.int (a : Nat)), some (.str f), some (.int (b : Nat)), some (.int (x : Nat)), o5, o6]) (fun m ρ hi => ?_) _ _ _ (show s.length - a < 100000 by omega) ⟨[], 0, a, s.length, none, none, ha, rfl, by omega, by decide, by omega, hR, rfl⟩)
  obtain ⟨f, b, x, k, o5, o6, hx, rfl, hk, hf, hb, hv, rfl⟩ := hi
  refine (t_ne (i := 0) (j := 4) hs rfl rfl (fun P h => W_g g7 h)).bind fun z hz => ?_
  subst hz
  refine W.ret ?_
  have hfl : f.length ≤ lim := Nat.le_trans hf (by decide)
  by_cases he : s[x]? = none ∨ s[x]? = some 44
  · rw [decide_eq_true he]
    show if false = true then _ else _
    rw [if_neg Bool.false_ne_true]
    rw [val_end he] at hv
    by_cases hf0 : f = []
    · refine WE_then (W_cmp (W_v rfl (W_c ⟨_, cmp_eqS, by simp [hf0]⟩))) (WE_rsx (W_v rfl ⟨x, ?_, rfl⟩))
      rw [← hv, finP, if_pos hf0]
      rfl
    · refine WE_skip (W_cmp (W_v rfl (W_c ⟨_, cmp_eqS, by simp [hf0]⟩))) (WE_retW (W_tup (W_es (W_v rfl (W_es1 (W_v rfl ⟨(show 2 ≤ lim by decide), ?_⟩))))))
      rw [← hv, finP, if_neg hf0]
      rfl
  · rw [decide_eq_false he]
    show if true = true then _ else _
    rw [if_pos rfl]
    cases e : s[x]? with
    | none => exact absurd (.inl e) he
    | some c =>
      have h44 : c ≠ 44 := fun z => he (.inr (by rw [e, z]))
      have hlt := lt_of e
      obtain ⟨k, rfl⟩ : ∃ k', k = k' + 1 := ⟨k - 1, by omega⟩
      rw [valP, e] at hv
      replace hv : (if c = 44 then finP f x else if c = 32 then valP s k f (b + 1) (x + 1) else match sgnP s x c with
        | .error i => .error i
        | .ok (d, e) => if 100 ≤ f.length + b then .error x else valP s k (f ++ List.replicate b 32 ++ [d]) 0 e) = R := hv
      rw [if_neg h44] at hv
      by_cases h32 : c = 32
      · rw [if_pos h32] at hv
        refine WE_then (W_cmp (W_ix (W_v rfl (W_v rfl ⟨_, ix_n hl' e, W_g g4 ⟨_, cmp_eqS, by simp [h32]⟩⟩)))) ?_
        refine WE_par (W_evMs (W_es (W_bin (W_v rfl (W_c ⟨_, add_int, W_es1 (W_bin (W_v rfl (W_c ⟨_, add_int, _, rfl, ?_⟩)))⟩))))).e
        exact WE_nil (WE_nil ⟨s.length - (x + 1), by omega, f, b + 1, x + 1, k, _, _, by omega, rfl, by omega, hf, by omega, hv, rfl⟩)
      · rw [if_neg h32] at hv
        refine WE_else (W_cmp (W_ix (W_v rfl (W_v rfl ⟨_, ix_n hl' e, W_g g4 ⟨_, cmp_eqS, by simp [h32]⟩⟩)))) ?_
        refine WE_unp (WE_evM (WE_callX (W_es (W_v rfl (W_es1 (W_v rfl ?_)))).e))
        have so := sign_ok (n := n) hs e
        intro st
        rcases so st with ⟨d0, st', e1, p1⟩ | ⟨ex, st', e1, i, p1, p2⟩
        · refine .inl ⟨d0, st', e1, ?_⟩
          cases hg : sgnP s x c with
          | error i => rw [hg] at p1; cases p1
          | ok p =>
            obtain ⟨d, y⟩ := p
            rw [hg] at p1 hv
            have : d0 = sD (d, y) := by cases p1; rfl
            subst this
            obtain ⟨hy1, hy2⟩ := sgn_le e hg
            refine ⟨_, _, rfl, rfl, ?_⟩
            replace hv : (if 100 ≤ f.length + b then .error x else valP s k (f ++ List.replicate b 32 ++ [d]) 0 y) = R := hv
            have s1 : ∀ {F : Nat → List D → M D} {o1 o4 o5 o6 : Option D}, W (evE con F (.cmp .Eq (.bin .Add (.bi .len (.cons (.v 2) .nil)) (.v 3)) (.g 8)) [some (.str s), o1, some (.str f), some (.int (b : Nat)), o4, o5, o6]) (fun z => z = .bl (decide (f.length + b = 100))) := by
              intro F o1 o4 o5 o6
              refine W_cmp (W_bin (W_bi (W_es1 (W_v rfl ⟨_, len_str hfl, W_v rfl ⟨_, add_int, W_g g8 ⟨_, cmp_eqI, ?_⟩⟩⟩))))
              congr 1
              by_cases hz : f.length + b = 100
              · simp [hz]; omega
              · simp [hz]; omega
            have s2 : ∀ {F : Nat → List D → M D} {o1 o4 o5 o6 : Option D}, W (evE con F (.cmp .Gt (.bin .Add (.bi .len (.cons (.v 2) .nil)) (.v 3)) (.g 8)) [some (.str s), o1, some (.str f), some (.int (b : Nat)), o4, o5, o6]) (fun z => z = .bl (decide (100 < f.length + b))) := by
              intro F o1 o4 o5 o6
              refine W_cmp (W_bin (W_bi (W_es1 (W_v rfl ⟨_, len_str hfl, W_v rfl ⟨_, add_int, W_g g8 ⟨_, cmp_gt, ?_⟩⟩⟩))))
              congr 1
              apply decide_eq_decide.mpr
              omega
            by_cases hc : 100 ≤ f.length + b
            · rw [if_pos hc] at hv
              refine WE_then (W_or (decide (f.length + b = 100)) s1 (fun hq => W_one (s2.to ?_)) (fun _ => rfl)) (WE_rsx (W_v rfl ⟨x, by rw [← hv]; rfl, rfl⟩))
              have := of_decide_eq_false hq
              rw [decide_eq_true (by omega)]
            · rw [if_neg hc] at hv
              refine WE_skip (W_or (decide (f.length + b = 100)) s1 (fun hq => W_one (s2.to ?_)) (fun hq => ?_)) ?_
              · rw [decide_eq_false (by omega)]
              · have := of_decide_eq_true hq
                omega
              have mul : binD .Mult (.str [32]) (.int (b : Nat)) = some (.str (List.replicate b 32)) := by
                rw [← rep32]
                exact mul_str (Nat.le_trans (show 1 * b ≤ 100 by omega) (by decide)) (by omega)
              have ad1 : binD .Add (.str f) (.str (List.replicate b 32)) = some (.str (f ++ List.replicate b 32)) := add_str (Nat.le_trans (show f.length + (List.replicate b 32).length ≤ 300 by simp; omega) (by decide))
              have ad2 : binD .Add (.str (f ++ List.replicate b 32)) (.str [d]) = some (.str (f ++ List.replicate b 32 ++ [d])) := add_str (Nat.le_trans (show (f ++ List.replicate b 32).length + [d].length ≤ 300 by simp; omega) (by decide))
              refine WE_par (W_evMs (W_es (W_bin (W_bin (W_v rfl (W_bin (W_g g4 (W_v rfl ⟨_, mul, _, ad1, W_v rfl ⟨_, ad2, W_es (W_c (W_es1 (W_v rfl ⟨_, rfl, ?_⟩)))⟩⟩)))))))).e
              exact WE_nil (WE_nil ⟨s.length - y, by omega, _, 0, y, k, _, _, hy2, rfl, by omega, by simp; omega, by omega, hv, rfl⟩)
        · refine .inr ⟨ex, st', e1, i, ?_, p2⟩
          cases hg : sgnP s x c with
          | error j =>
            rw [hg] at p1 hv
            have : j = i := by cases p1; rfl
            rw [← hv, this]
            rfl
          | ok p => rw [hg] at p1; cases p1
end K04

namespace K04
open PySem Ev
theorem lvalue_ok {n : Nat} {s : List Nat} {a : Nat} (hs : TL' s) (ha : a ≤ s.length) : W (call (n + 2) 26 [.str s, .int (a : Nat)]) (fun d => d = encW (valP s s.length [] 0 a)) := by
  have hl := hs.len
  have hl' := hs.lim
  refine W_call (d := d26) rfl (by decide) rfl ?_
  show W (exSs con _ [] b26 [some (.str s), some (.int (a : Nat)), none, none, none, none]) _
  unfold b26
  generalize hR : valP s s.length [] 0 a = R
  refine W_unp (W_evM (W_tup (W_es (W_c (W_es1 (W_c ⟨(show 2 ≤ lim by decide), _, _, rfl, rfl, ?_⟩))))))
  refine W_whls (W_whl (fun m ρ => ∃ (f : List Nat) (b x k : Nat) (o4 o5 : Option D), x ≤ s.length ∧ m = s.length - x ∧ s.length ≤ x + k ∧ f.length ≤ 100 ∧ b ≤ x ∧ valP s k f b x = R ∧ ρ = [some (.str s), some (.int (x : Nat)), some (.str f), some (.str (List.replicate b 32)), o4, o5]) (fun m ρ hi => ?_) _ _ _ (show s.length - a < 100000 by omega) ⟨[], 0, a, s.length, none, none, ha, rfl, by omega, by decide, by omega, hR, rfl⟩)
  obtain ⟨f, b, x, k, o4, o5, hx, rfl, hk, hf, hb, hv, rfl⟩ := hi
  refine (t_ne (i := 0) (j := 1) hs rfl rfl (fun P h => W_c h)).bind fun z hz => ?_
  subst hz
  refine W.ret ?_
  have hfl : f.length ≤ lim := Nat.le_trans hf (by decide)
  have hbl : (List.replicate b 32).length ≤ lim := by rw [List.length_replicate]; exact Nat.le_trans (show b ≤ 4000 by omega) (by decide)
  by_cases he : s[x]? = none ∨ s[x]? = some 44
  · rw [decide_eq_true he]
    show if false = true then _ else _
    rw [if_neg Bool.false_ne_true]
    rw [val_end he] at hv
    rw [← hv]
    refine W_rets (W_tup (W_es (W_ite (W_cmp (W_v rfl (W_c ⟨_, cmp_neS, _, rfl, fun hq => W_v rfl (W_es1 (W_v rfl ⟨(show 2 ≤ lim by decide), ?_⟩)), fun hq => W_c (W_es1 (W_v rfl ⟨(show 2 ≤ lim by decide), ?_ ⟩))⟩))))))
    · rw [finP, if_neg (by simpa using hq)]
      rfl
    · rw [finP, if_pos (by simpa using hq)]
      rfl
  · rw [decide_eq_false he]
    show if true = true then _ else _
    rw [if_pos rfl]
    cases e : s[x]? with
    | none => exact absurd (.inl e) he
    | some c =>
      have h44 : c ≠ 44 := fun z => he (.inr (by rw [e, z]))
      have hlt := lt_of e
      obtain ⟨k, rfl⟩ : ∃ k', k = k' + 1 := ⟨k - 1, by omega⟩
      rw [valP, e] at hv
      replace hv : (if c = 44 then finP f x else if c = 32 then valP s k f (b + 1) (x + 1) else match sgnP s x c with
        | .error i => .error i
        | .ok (d, e) => if 100 ≤ f.length + b then .error x else valP s k (f ++ List.replicate b 32 ++ [d]) 0 e) = R := hv
      rw [if_neg h44] at hv
      refine W_unp (W_evM (W_callX (W_es (W_v rfl (W_es1 (W_v rfl ((unmarked_ok (n := n) hs e h44).to ?_)))))))
      by_cases h32 : c = 32
      · rw [if_pos h32] at hv
        have hg : sgnP s x c = .ok (32, x + 1) := by
          unfold sgnP
          rw [if_neg (by omega), if_neg (by rw [h32]; decide), h32]
        rw [hg]
        refine ⟨_, _, rfl, rfl, W_skip (W_cmp (W_v rfl (W_c ⟨_, rfl, rfl⟩))) ?_⟩
        have ad : binD .Add (.str (List.replicate b 32)) (.str [32]) = some (.str (List.replicate (b + 1) 32)) := by
          rw [add_str (Nat.le_trans (show (List.replicate b 32).length + [32].length ≤ 4001 by simp; omega) (by decide)), ← List.replicate_succ']
        refine W_then (W_cmp (W_ix (W_v rfl (W_v rfl ⟨_, ix_n hl' e, W_c ⟨_, cmp_eqS, by simp [h32]⟩⟩)))) (W_set (W_evM (W_bin (W_v rfl (W_c ⟨_, ad, W_nil (W_set (W_evM (W_v rfl (W_nil ?_))))⟩)))))
        exact ⟨s.length - (x + 1), by omega, f, b + 1, x + 1, k, _, _, by omega, rfl, by omega, hf, by omega, hv, rfl⟩
      · rw [if_neg h32] at hv
        cases hg : sgnP s x c with
        | error i =>
          rw [hg] at hv
          refine ⟨_, _, rfl, rfl, W_then (W_cmp (W_v rfl (W_c ⟨_, rfl, rfl⟩))) (W_rets (W_tup (W_es (W_c (W_es1 (W_v rfl ⟨(show 2 ≤ lim by decide), ?_⟩))))))⟩
          rw [← hv]
          rfl
        | ok p =>
          obtain ⟨d, y⟩ := p
          rw [hg] at hv
          replace hv : (if 100 ≤ f.length + b then .error x else valP s k (f ++ List.replicate b 32 ++ [d]) 0 y) = R := hv
          obtain ⟨hy1, hy2⟩ := sgn_le e hg
          refine ⟨_, _, rfl, rfl, W_skip (W_cmp (W_v rfl (W_c ⟨_, rfl, rfl⟩))) ?_⟩
          refine W_else (W_cmp (W_ix (W_v rfl (W_v rfl ⟨_, ix_n hl' e, W_c ⟨_, cmp_eqS, by simp [h32]⟩⟩)))) ?_
          have t1 : W (evE con (callD con fs 28 (n + 1)) (.cmp .GtE (.bin .Add (.bi .len (.cons (.v 2) .nil)) (.bi .len (.cons (.v 3) .nil))) (.c (.int 100))) [some (.str s), some (.int (x : Nat)), some (.str f), some (.str (List.replicate b 32)), some (.str [d]), some (.int (y : Nat))]) (fun z => z = .bl (decide (100 ≤ f.length + b))) := by
            refine W_cmp (W_bin (W_bi (W_es1 (W_v rfl ⟨_, len_str hfl, W_bi (W_es1 (W_v rfl ⟨_, len_str hbl, _, add_int, W_c ⟨_, cmp_ge, ?_⟩⟩))⟩))))
            congr 1
            apply decide_eq_decide.mpr
            rw [List.length_replicate]
            omega
          by_cases hc : 100 ≤ f.length + b
          · rw [decide_eq_true hc] at t1
            rw [if_pos hc] at hv
            refine W_then t1 (W_rets (W_tup (W_es (W_c (W_es1 (W_v rfl ⟨(show 2 ≤ lim by decide), ?_⟩))))))
            rw [← hv]
            rfl
          · rw [decide_eq_false hc] at t1
            rw [if_neg hc] at hv
            have ad1 : binD .Add (.str f) (.str (List.replicate b 32)) = some (.str (f ++ List.replicate b 32)) := add_str (Nat.le_trans (show f.length + (List.replicate b 32).length ≤ 300 by simp; omega) (by decide))
            have ad2 : binD .Add (.str (f ++ List.replicate b 32)) (.str [d]) = some (.str (f ++ List.replicate b 32 ++ [d])) := add_str (Nat.le_trans (show (f ++ List.replicate b 32).length + [d].length ≤ 300 by simp; omega) (by decide))
            refine W_else t1 (W_par (W_evMs (W_es (W_bin (W_bin (W_v rfl (W_v rfl ⟨_, ad1, W_v rfl ⟨_, ad2, W_es1 (W_c ⟨_, rfl, W_nil (W_nil (W_set (W_evM (W_v rfl (W_nil ?_)))))⟩)⟩⟩)))))))
            exact ⟨s.length - y, by omega, _, 0, y, k, _, _, hy2, rfl, by omega, by simp; omega, by omega, hv, rfl⟩
/-! ### pairs -/
abbrev Pr := List Nat × List Nat
def pairD (p : Pr) : D := .tup [.str p.1, .str p.2]
def pairP (s : List Nat) (a : Nat) : Rs (Pr × Nat) := match wordP s (bl s a) with
  | .error i => .error i
  | .ok (w, a2) => if s[bl s a2]? = some 61 then (match valP s s.length [] 0 (bl s (bl s a2 + 1)) with
      | .error i => .error i
      | .ok (t, e) => .ok ((w, t), e))
    else .error (bl s a2)
theorem wn_len {f : Bool} : ∀ {r : List Nat}, wn f r ≤ r.length
  | [] => Nat.le_refl _
  | c :: r => by
    unfold wn
    have : wn false r ≤ r.length := wn_len
    split
    · simp; omega
    · simp
theorem word_le {s : List Nat} {a : Nat} {w : List Nat} {e : Nat} (ha : a ≤ s.length) (h : wordP s a = .ok (w, e)) : a ≤ e ∧ e ≤ s.length := by
  unfold wordP at h
  have := wn_len (f := true) (r := s.drop a)
  rw [List.length_drop] at this
  split at h
  · cases h
  · split at h
    · cases h; omega
    · cases h
theorem val_le {s : List Nat} : ∀ {k : Nat} {f : List Nat} {b a : Nat} {t : List Nat} {e : Nat}, a ≤ s.length → s.length ≤ a + k → valP s k f b a = .ok (t, e) → a ≤ e ∧ e ≤ s.length ∧ (s[e]? = none ∨ s[e]? = some 44)
  | 0, f, b, a, t, e, ha, hk, h => by
    have hn : s[a]? = none := List.getElem?_eq_none_iff.mpr (by omega)
    rw [valP, finP] at h
    split at h
    · cases h
    · cases h
      exact ⟨Nat.le_refl _, ha, .inl hn⟩
  | k + 1, f, b, a, t, e, ha, hk, h => by
    rw [valP] at h
    split at h
    · rename_i hn
      rw [finP] at h
      split at h
      · cases h
      · cases h
        exact ⟨Nat.le_refl _, ha, .inl hn⟩
    · rename_i c hc
      have hlt := lt_of hc
      split at h
      · rename_i h44
        rw [finP] at h
        split at h
        · cases h
        · cases h
          exact ⟨Nat.le_refl _, ha, .inr (by rw [hc, h44])⟩
      · split at h
        · obtain ⟨h1, h2, h3⟩ := val_le (by omega) (by omega) h
          exact ⟨by omega, h2, h3⟩
        · split at h
          · cases h
          · rename_i d y hg
            obtain ⟨hy1, hy2⟩ := sgn_le hc hg
            split at h
            · cases h
            · obtain ⟨h1, h2, h3⟩ := val_le hy2 (by omega) h
              exact ⟨by omega, h2, h3⟩
theorem pair_le {s : List Nat} {a : Nat} {p : Pr} {e : Nat} (ha : a ≤ s.length) (h : pairP s a = .ok (p, e)) : a < e ∧ e ≤ s.length ∧ (s[e]? = none ∨ s[e]? = some 44) := by
  unfold pairP at h
  have b1 := bl_le (s := s) (k := s.length) (a := a) (by omega) ha
  split at h
  · cases h
  · rename_i w a2 hw
    have hw' := word_le b1.1 hw
    have b2 := bl_le (s := s) (k := s.length) (a := a2) (by omega) hw'.2
    split at h
    · rename_i h61
      have hlt := lt_of h61
      have b3 := bl_le (s := s) (k := s.length) (a := bl s a2 + 1) (by omega) (by omega)
      split at h
      · cases h
      · rename_i t y hv
        cases h
        have := val_le b3.1 (by omega) hv
        exact ⟨by omega, this.2⟩
    · cases h
def pD (p : Pr × Nat) : D := .tup [pairD p.1, .int (p.2 : Nat)]
/-- from a def of the reader: what it hands back, or its error -/
theorem WR.go {α : Type} {m : M D} {o : Rs α} {g : α → D} {P : D → Prop} {E : Ex → Prop} (h : WR m (o.map g)) (h1 : ∀ v, o = .ok v → P (g v)) (h2 : ∀ i : Nat, o = .error i → E ⟨0, .int (i : Nat)⟩) : WE m P E := fun st => by
  rcases h st with ⟨d, st', e1, p1⟩ | ⟨ex, st', e1, i, p1, p2⟩
  · cases o with
    | error i => cases p1
    | ok v =>
      have : d = g v := by cases p1; rfl
      exact .inl ⟨d, st', e1, by rw [this]; exact h1 v rfl⟩
  · cases o with
    | error j =>
      have : j = i := by cases p1; rfl
      exact .inr ⟨ex, st', e1, by rw [p2]; exact h2 i (by rw [this])⟩
    | ok v => cases p1
theorem pair_ok {n : Nat} {s : List Nat} {a : Nat} (hs : TL' s) (ha : a ≤ s.length) : WR (call (n + 3) 5 [.str s, .int (a : Nat)]) ((pairP s a).map pD) := by
  have hl' := hs.lim
  refine WE_call (d := d5) rfl (by decide) rfl ?_
  show WE (exSs con _ [] b5 [some (.str s), some (.int (a : Nat)), none, none, none, none, none]) _ _
  unfold b5
  have b1 := bl_le (s := s) (k := s.length) (a := a) (by omega) ha
  refine WE_unp (WE_evM (WE_callW (W_es (W_v rfl (W_es1 (W_callX (W_es (W_v rfl (W_es1 (W_v rfl ((blanks_ok (n := n + 1) hs ha).to ?_ )))))))))))
  refine (word_ok (n := n + 1) hs b1.1).go (fun v hw => ?_) (fun i hw => ⟨i, by unfold pairP; rw [hw]; rfl, rfl⟩)
  obtain ⟨w, a2⟩ := v
  have hw' := word_le b1.1 hw
  have b2 := bl_le (s := s) (k := s.length) (a := a2) (by omega) hw'.2
  refine ⟨_, _, rfl, rfl, WE_setW (W_evM (W_callX (W_es (W_v rfl (W_es1 (W_v rfl ((blanks_ok (n := n + 1) hs hw'.2).to ?_ )))))))⟩
  have t1 : W (evE con (callD con fs 28 (n + 2)) (.or_ (.cmp .Eq (.v 4) (.bi .len (.cons (.v 0) .nil))) (.one (.cmp .NotEq (.ix (.v 0) (.v 4)) (.g 9)))) [some (.str s), some (.int (a : Nat)), some (.str w), some (.int (a2 : Nat)), some (.int (bl s a2 : Nat)), none, none]) (fun d => d = .bl (!decide (s[bl s a2]? = some 61))) := by
    refine W_or ((bl s a2 : Int) == (s.length : Nat)) (W_cmp (W_v rfl (W_bi (W_es1 (W_v rfl ⟨_, len_str hl', _, cmp_eqI, rfl⟩))))) (fun hq => W_one ?_) (fun hq => ?_)
    · have hne : (bl s a2 : Int) ≠ (s.length : Nat) := by simpa using hq
      have hlt : bl s a2 < s.length := by omega
      have e : s[bl s a2]? = some s[bl s a2] := List.getElem?_eq_getElem hlt
      refine W_cmp (W_ix (W_v rfl (W_v rfl ⟨_, ix_n hl' e, W_g g9 ⟨_, cmp_neS, ?_⟩⟩)))
      rw [e]
      by_cases hz : s[bl s a2] = 61 <;> simp [hz]
    · have : (bl s a2 : Int) = (s.length : Nat) := by simpa using hq
      rw [List.getElem?_eq_none_iff.mpr (by omega)]
      rfl
  by_cases h61 : s[bl s a2]? = some 61
  · have hlt := lt_of h61
    have b3 := bl_le (s := s) (k := s.length) (a := bl s a2 + 1) (by omega) (by omega)
    rw [decide_eq_true h61] at t1
    refine WE_skip t1 (WE_unp (WE_evM (WE_callW (W_es (W_v rfl (W_es1 (W_callX (W_es (W_v rfl (W_es1 (W_bin (W_v rfl (W_c ⟨_, add_int, (blanks_ok (n := n + 1) (a := bl s a2 + 1) hs (by omega)).to ?_ ⟩)))))))))))))
    refine (value_ok (n := n) hs b3.1).go (fun v hv => ?_) (fun i hv => ⟨i, by unfold pairP; rw [hw]; show Except.map pD (if _ then _ else _) = _; rw [if_pos h61, hv]; rfl, rfl⟩)
    obtain ⟨t, y⟩ := v
    refine ⟨_, _, rfl, rfl, WE_retW (W_tup (W_es (W_tup (W_es (W_v rfl (W_es1 (W_v rfl ⟨(show 2 ≤ lim by decide), W_es1 (W_v rfl ⟨(show 2 ≤ lim by decide), ?_ ⟩)⟩)))))))⟩
    unfold pairP
    rw [hw]
    show Except.map pD (if _ then _ else _) = _
    rw [if_pos h61, hv]
    rfl
  · rw [decide_eq_false h61] at t1
    refine WE_then t1 (WE_rsx (W_v rfl ⟨bl s a2, ?_, rfl⟩))
    unfold pairP
    rw [hw]
    show Except.map pD (if _ then _ else _) = _
    rw [if_neg h61]
    rfl
end K04

namespace K04
open PySem Ev
def pairsP (s : List Nat) : Nat → List Pr → Nat → Rs (List Pr)
  | 0, _, _ => .error 0
  | k + 1, acc, a => match pairP s a with
    | .error i => .error i
    | .ok (p, e) => if e = s.length then .ok (acc ++ [p]) else if acc.length + 1 = 8 then .error e else pairsP s k (acc ++ [p]) (e + 1)
def nameD (ps : List Pr) : D := .tup (ps.map pairD)
theorem app_pairs {acc : List Pr} {p : Pr} : acc.map pairD ++ [pairD p] = (acc ++ [p]).map pairD := by simp
theorem pairs_ok {n : Nat} {s : List Nat} (hs : TL' s) : WR (call (n + 4) 6 [.str s]) ((pairsP s 8 [] 0).map nameD) := by
  have hl' := hs.lim
  refine WE_call (d := d6) rfl (by decide) rfl ?_
  show WE (exSs con _ [1] b6 [some (.str s), none, none, none]) _ _
  unfold b6
  generalize hR : pairsP s 8 [] 0 = R
  refine WE_parL (W_c ?_).e
  refine WE_whls (WE_whl (fun m ρ => ∃ (acc : List Pr) (a : Nat) (o3 : Option D), acc.length < 8 ∧ m = 8 - acc.length ∧ a ≤ s.length ∧ pairsP s (8 - acc.length) acc a = R ∧ ρ = [some (.str s), some (.lst (acc.map pairD)), some (.int (a : Nat)), o3]) (fun m ρ hi => ?_) _ _ _ (show 8 < 100000 by decide) ⟨[], 0, none, by decide, rfl, Nat.zero_le _, hR, rfl⟩)
  obtain ⟨acc, a, o3, h8, rfl, ha, hv, rfl⟩ := hi
  refine (W_c (P := fun x => x = .bl true) rfl).bind fun x hx => ?_
  subst hx
  refine W.ret ?_
  rw [if_pos rfl]
  obtain ⟨k, hk⟩ : ∃ k, 8 - acc.length = k + 1 := ⟨8 - acc.length - 1, by omega⟩
  rw [hk, pairsP] at hv
  refine WE_unp (WE_evM (WE_callW (W_es (W_v rfl (W_es1 (W_v rfl ?_ ))))))
  refine (pair_ok (n := n) hs ha).go (fun v hp => ?_) (fun i hp => ⟨i, by rw [hp] at hv; rw [← hv]; rfl, rfl⟩)
  obtain ⟨p, e⟩ := v
  obtain ⟨h1, h2, h3⟩ := pair_le ha hp
  rw [hp] at hv
  replace hv : (if e = s.length then .ok (acc ++ [p]) else if acc.length + 1 = 8 then .error e else pairsP s k (acc ++ [p]) (e + 1)) = R := hv
  refine ⟨_, _, rfl, rfl, WE_app (W_v rfl ⟨_, rfl, by rw [List.length_map]; exact Nat.lt_of_lt_of_le h8 (by decide), ?_⟩)⟩
  rw [app_pairs]
  have t1 : W (evE con (callD con fs 28 (n + 3)) (.cmp .Eq (.v 2) (.bi .len (.cons (.v 0) .nil))) [some (.str s), some (.lst ((acc ++ [p]).map pairD)), some (.int (e : Nat)), some (pairD p)]) (fun d => d = .bl (decide (e = s.length))) := by
    refine W_cmp (W_v rfl (W_bi (W_es1 (W_v rfl ⟨_, len_str hl', _, cmp_eqI, ?_⟩))))
    congr 1
    by_cases hz : e = s.length
    · simp [hz]
    · simp [hz] <;> omega
  by_cases he : e = s.length
  · rw [decide_eq_true he] at t1
    rw [if_pos he] at hv
    refine WE_then t1 (WE_retW (W_bi (W_es1 (W_v rfl ⟨_, rfl, ?_⟩))))
    rw [← hv]
    rfl
  · rw [decide_eq_false he] at t1
    rw [if_neg he] at hv
    have t2 : W (evE con (callD con fs 28 (n + 3)) (.cmp .Eq (.bi .len (.cons (.v 1) .nil)) (.g 10)) [some (.str s), some (.lst ((acc ++ [p]).map pairD)), some (.int (e : Nat)), some (pairD p)]) (fun d => d = .bl (decide (acc.length + 1 = 8))) := by
      refine W_cmp (W_bi (W_es1 (W_v rfl ⟨_, len_lst, W_g g10 ⟨_, cmp_eqI, ?_⟩⟩)))
      congr 1
      rw [List.length_map, List.length_append]
      by_cases hz : acc.length + 1 = 8
      · simp [hz] <;> omega
      · simp [hz] <;> omega
    by_cases h7 : acc.length + 1 = 8
    · rw [decide_eq_true h7] at t2
      rw [if_pos h7] at hv
      refine WE_skip t1 (WE_then t2 (WE_rsx (W_v rfl ⟨e, by rw [← hv]; rfl, rfl⟩)))
    · rw [decide_eq_false h7] at t2
      rw [if_neg h7] at hv
      refine WE_skip t1 (WE_skip t2 (WE_setW (W_evM (W_bin (W_v rfl (W_c ⟨_, add_int, ?_⟩))))))
      have hlt : e < s.length := by omega
      exact WE_nil ⟨8 - (acc ++ [p]).length, by simp; omega, acc ++ [p], e + 1, _, by simp; omega, rfl, by omega, by rw [← hv, List.length_append]; congr 1; simp; omega, rfl⟩
/-- a text that can be read -/
structure RT (s : List Nat) : Prop where
  tl : TL' s
  pr : ∀ c ∈ s, 32 ≤ c ∧ c ≤ 126
theorem readtext_ok {n : Nat} {s : List Nat} (h : RT s) : W (call (n + 1) 0 [.str s]) (fun d => d = .bl true) := by
  have hl := h.tl.lim
  have h4 := h.tl.len
  refine W_call (d := d0) rfl (by decide) rfl ?_
  show W (exSs con _ [] b0 [some (.str s), none]) _
  unfold b0
  refine W_rets (W_and true (W_val rfl rfl) (fun _ => W_and true (W_cmp (W_bi (W_es1 (W_v rfl ⟨_, len_str hl, W_g g0 ⟨_, cmp_le, by rw [decide_eq_true (by omega)]⟩⟩)))) (fun _ => W_one (W_bi (W_es1 (W_compTG (fun c => D.str [c]) s (fun _ => .bl true) (W_seq (W_v rfl ⟨_, rfl, rfl⟩)) hl (fun c hc => ⟨_, rfl, W_chn (W_c (W_v rfl ⟨_, leS (h.pr c hc).1, fun _ => W_c ⟨_, leS (h.pr c hc).2, rfl⟩, fun z => by cases z⟩))⟩) ⟨_, ?_, rfl⟩)))) (fun z => by cases z)) (fun z => by cases z))
  have e : (s.map fun _ => D.bl true) = (s.map fun _ => true).map .bl := by simp
  rw [e, all_bools]
  simp
def readD (s : List Nat) : D := if bl s 0 = s.length then .tup [] else match pairsP s 8 [] 0 with
  | .ok ps => nameD ps
  | .error i => .int (i : Nat)
theorem told_ok {n : Nat} {s : List Nat} (h : RT s) : W (call (n + 6) 8 [.str s]) (fun d => d = readD s) := by
  have hl := h.tl.lim
  refine W_call (d := d8) rfl (by decide) rfl ?_
  show W (exSs con _ [] b8 [some (.str s), none]) _
  unfold b8
  refine W_try (WE_rets (WE_callW (W_es1 (W_v rfl ?_))))
  refine WE_call (d := d7) rfl (by decide) rfl ?_
  show WE (exSs con _ [] b7 [some (.str s)]) _ _
  unfold b7
  refine WE_skip (W_not (W_callX (W_es1 (W_v rfl ((readtext_ok (n := n + 3) h).to ⟨true, rfl, rfl⟩))))) ?_
  refine WE_rets (WE_ite (W_cmp (W_callX (W_es (W_v rfl (W_es1 (W_c ((blanks_ok (n := n + 3) (a := 0) h.tl (Nat.zero_le _)).to (W_bi (W_es1 (W_v rfl ⟨_, len_str hl, _, cmp_eqI, _, rfl, fun hq => ?_, fun hq => ?_ ⟩)))))))))))
  · refine (W_tup (W_es0 ⟨by decide, ?_⟩)).e
    have : bl s 0 = s.length := by have : ((bl s 0 : Nat) : Int) = (s.length : Nat) := by simpa using hq
                                   omega
    show D.tup [] = readD s
    rw [readD, if_pos this]
  · have hb : bl s 0 ≠ s.length := by have : ((bl s 0 : Nat) : Int) ≠ (s.length : Nat) := by simpa using hq
                                      omega
    refine WE_callW (W_es1 (W_v rfl ((pairs_ok (n := n) h.tl).go (fun v hp => ?_) (fun i hp => ⟨rfl, ?_⟩))))
    · show nameD v = readD s
      rw [readD, if_neg hb, hp]
    · show D.int (i : Nat) = readD s
      rw [readD, if_neg hb, hp]
/-! ### the law's reader -/
theorem pair_bl {s : List Nat} {a : Nat} (ha : a ≤ s.length) : pairP s (bl s a) = pairP s a := by
  unfold pairP
  rw [bl_idem ha]
def resD (o : Rs (List Pr)) : D := match o with
  | .ok ps => nameD ps
  | .error i => .int (i : Nat)
theorem eq_len {e : Nat} {s : List Nat} : (((e : Nat) : Int) == (s.length : Nat)) = decide (e = s.length) := by
  by_cases hz : e = s.length
  · simp [hz]
  · simp [hz] <;> omega
theorem lread_ok {n : Nat} {s : List Nat} (hs : TL' s) : W (call (n + 3) 27 [.str s]) (fun d => d = readD s) := by
  have hl' := hs.lim
  refine W_call (d := d27) rfl (by decide) rfl ?_
  show W (exSs con _ [2] b27 [some (.str s), none, none, none, none]) _
  unfold b27
  have b0 := bl_le (s := s) (k := s.length) (a := 0) (by omega) (Nat.zero_le _)
  refine W_parR (W_callX (W_es (W_v rfl (W_es1 (W_c ((lblanks_ok (n := n + 1) (a := 0) hs (Nat.zero_le _)).to ?_ ))))))
  by_cases hb : bl s 0 = s.length
  · refine W_then (W_cmp (W_v rfl (W_bi (W_es1 (W_v rfl ⟨_, len_str hl', _, cmp_eqI, by rw [eq_len, decide_eq_true hb]⟩))))) (W_rets (W_tup (W_es0 ⟨by decide, ?_⟩)))
    rw [readD, if_pos hb]
  refine W_skip (W_cmp (W_v rfl (W_bi (W_es1 (W_v rfl ⟨_, len_str hl', _, cmp_eqI, by rw [eq_len, decide_eq_false hb]⟩))))) ?_
  have hD : readD s = resD (pairsP s 8 [] (bl s 0)) := by
    rw [readD, if_neg hb]
    have : pairsP s 8 [] (bl s 0) = pairsP s 8 [] 0 := by rw [pairsP, pair_bl (Nat.zero_le _)]; rfl
    rw [this]
    rfl
  rw [hD]
  generalize hR : pairsP s 8 [] (bl s 0) = R
  refine W_whls (W_whl (fun m ρ => ∃ (acc : List Pr) (a : Nat) (o3 o4 : Option D), acc.length < 8 ∧ m = 8 - acc.length ∧ a ≤ s.length ∧ pairsP s (8 - acc.length) acc a = R ∧ ρ = [some (.str s), some (.int (a : Nat)), some (.lst (acc.map pairD)), o3, o4]) (fun m ρ hi => ?_) _ _ _ (show 8 < 100000 by decide) ⟨[], bl s 0, none, none, by decide, rfl, b0.1, hR, rfl⟩)
  obtain ⟨acc, a, o3, o4, h8, rfl, ha, hv, rfl⟩ := hi
  refine (W_c (P := fun x => x = .bl true) rfl).bind fun x hx => ?_
  subst hx
  refine W.ret ?_
  rw [if_pos rfl]
  obtain ⟨k, hk⟩ : ∃ k, 8 - acc.length = k + 1 := ⟨8 - acc.length - 1, by omega⟩
  rw [hk, pairsP] at hv
  have b1 := bl_le (s := s) (k := s.length) (a := a) (by omega) ha
  refine W_unp (W_evM (W_callX (W_es (W_v rfl (W_es1 (W_callX (W_es (W_v rfl (W_es1 (W_v rfl ((lblanks_ok (n := n + 1) hs ha).to ((lword_ok (n := n + 1) hs b1.1).to ?_ ))))))))))))
  cases hw : wordP s (bl s a) with
  | error i =>
    have hp : pairP s a = .error i := by unfold pairP; rw [hw]
    rw [hp] at hv
    refine ⟨_, _, rfl, rfl, W_then (W_cmp (W_v rfl (W_c ⟨_, rfl, rfl⟩))) (W_rets (W_v rfl ?_))⟩
    rw [← hv]
    rfl
  | ok v =>
    obtain ⟨w, a2⟩ := v
    have hw' := word_le b1.1 hw
    have b2 := bl_le (s := s) (k := s.length) (a := a2) (by omega) hw'.2
    refine ⟨_, _, rfl, rfl, W_skip (W_cmp (W_v rfl (W_c ⟨_, rfl, rfl⟩))) (W_set (W_evM (W_callX (W_es (W_v rfl (W_es1 (W_v rfl ((lblanks_ok (n := n + 1) hs hw'.2).to ?_ ))))))))⟩
    have t1 : W (evE con (callD con fs 28 (n + 2)) (.or_ (.cmp .Eq (.v 1) (.bi .len (.cons (.v 0) .nil))) (.one (.cmp .NotEq (.ix (.v 0) (.v 1)) (.c (.str [61]))))) [some (.str s), some (.int (bl s a2 : Nat)), some (.lst (acc.map pairD)), some (.str w), o4]) (fun d => d = .bl (!decide (s[bl s a2]? = some 61))) := by
      refine W_or ((bl s a2 : Int) == (s.length : Nat)) (W_cmp (W_v rfl (W_bi (W_es1 (W_v rfl ⟨_, len_str hl', _, cmp_eqI, rfl⟩))))) (fun hq => W_one ?_) (fun hq => ?_)
      · have hne : (bl s a2 : Int) ≠ (s.length : Nat) := by simpa using hq
        have hlt : bl s a2 < s.length := by omega
        have e : s[bl s a2]? = some s[bl s a2] := List.getElem?_eq_getElem hlt
        refine W_cmp (W_ix (W_v rfl (W_v rfl ⟨_, ix_n hl' e, W_c ⟨_, cmp_neS, ?_⟩⟩)))
        rw [e]
        by_cases hz : s[bl s a2] = 61 <;> simp [hz]
      · have : (bl s a2 : Int) = (s.length : Nat) := by simpa using hq
        rw [List.getElem?_eq_none_iff.mpr (by omega)]
        rfl
    by_cases h61 : s[bl s a2]? = some 61
    · have hlt := lt_of h61
      have b3 := bl_le (s := s) (k := s.length) (a := bl s a2 + 1) (by omega) (by omega)
      rw [decide_eq_true h61] at t1
      refine W_skip t1 (W_unp (W_evM (W_callX (W_es (W_v rfl (W_es1 (W_callX (W_es (W_v rfl (W_es1 (W_bin (W_v rfl (W_c ⟨_, add_int, (lblanks_ok (n := n + 1) (a := bl s a2 + 1) hs (by omega)).to ((lvalue_ok (n := n) hs b3.1).to ?_ )⟩)))))))))))))
      cases hg : valP s s.length [] 0 (bl s (bl s a2 + 1)) with
      | error i =>
        have hp : pairP s a = .error i := by unfold pairP; rw [hw]; show (if _ then _ else _) = _; rw [if_pos h61, hg]
        rw [hp] at hv
        refine ⟨_, _, rfl, rfl, W_then (W_cmp (W_v rfl (W_c ⟨_, rfl, rfl⟩))) (W_rets (W_v rfl ?_))⟩
        rw [← hv]
        rfl
      | ok v =>
        obtain ⟨t, e⟩ := v
        have hp : pairP s a = .ok ((w, t), e) := by unfold pairP; rw [hw]; show (if _ then _ else _) = _; rw [if_pos h61, hg]
        obtain ⟨h1, h2, h3⟩ := pair_le ha hp
        rw [hp] at hv
        replace hv : (if e = s.length then .ok (acc ++ [(w, t)]) else if acc.length + 1 = 8 then .error e else pairsP s k (acc ++ [(w, t)]) (e + 1)) = R := hv
        refine ⟨_, _, rfl, rfl, W_skip (W_cmp (W_v rfl (W_c ⟨_, rfl, rfl⟩))) (W_app (W_tup (W_es (W_v rfl (W_es1 (W_v rfl ⟨(show 2 ≤ lim by decide), _, rfl, by rw [List.length_map]; exact Nat.lt_of_lt_of_le h8 (by decide), ?_ ⟩))))))⟩
        show W (exSs con _ [2] _ [some (.str s), some (.int (e : Nat)), some (.lst (acc.map pairD ++ [pairD (w, t)])), some (.str w), some (.str t)]) _
        rw [app_pairs]
        by_cases he : e = s.length
        · rw [if_pos he] at hv
          refine W_then (W_cmp (W_v rfl (W_bi (W_es1 (W_v rfl ⟨_, len_str hl', _, cmp_eqI, by rw [eq_len, decide_eq_true he]⟩))))) (W_rets (W_bi (W_es1 (W_v rfl ⟨_, rfl, ?_⟩))))
          rw [← hv]
          rfl
        · rw [if_neg he] at hv
          refine W_skip (W_cmp (W_v rfl (W_bi (W_es1 (W_v rfl ⟨_, len_str hl', _, cmp_eqI, by rw [eq_len, decide_eq_false he]⟩))))) ?_
          have t2 : W (evE con (callD con fs 28 (n + 2)) (.cmp .Eq (.bi .len (.cons (.v 2) .nil)) (.c (.int 8))) [some (.str s), some (.int (e : Nat)), some (.lst ((acc ++ [(w, t)]).map pairD)), some (.str w), some (.str t)]) (fun d => d = .bl (decide (acc.length + 1 = 8))) := by
            refine W_cmp (W_bi (W_es1 (W_v rfl ⟨_, len_lst, W_c ⟨_, cmp_eqI, ?_⟩⟩)))
            congr 1
            rw [List.length_map, List.length_append]
            by_cases hz : acc.length + 1 = 8
            · simp [hz] <;> omega
            · simp [hz] <;> omega
          by_cases h7 : acc.length + 1 = 8
          · rw [decide_eq_true h7] at t2
            rw [if_pos h7] at hv
            refine W_then t2 (W_rets (W_v rfl ?_))
            rw [← hv]
            rfl
          · rw [decide_eq_false h7] at t2
            rw [if_neg h7] at hv
            refine W_skip t2 (W_set (W_evM (W_bin (W_v rfl (W_c ⟨_, add_int, W_nil ?_⟩)))))
            have hlt2 : e < s.length := by omega
            exact ⟨8 - (acc ++ [(w, t)]).length, by simp; omega, acc ++ [(w, t)], e + 1, _, _, by simp; omega, rfl, by omega, by rw [← hv, List.length_append]; congr 1; simp; omega, rfl⟩
    · have hp : pairP s a = .error (bl s a2) := by unfold pairP; rw [hw]; show (if _ then _ else _) = _; rw [if_neg h61]
      rw [hp] at hv
      rw [decide_eq_false h61] at t1
      refine W_then t1 (W_rets (W_v rfl ?_))
      rw [← hv]
      rfl
end K04

namespace K04.N3
open PySem Ev
theorem g5 : con[5]? = some (.tup [.str [44], .str [61], .str [43], .str [34], .str [92]]) := rfl
theorem g6 : con[6]? = some (.str [92]) := rfl
theorem g4 : con[4]? = some (.str [32]) := rfl
theorem g9 : con[9]? = some (.str [61]) := rfl
theorem g7 : con[7]? = some (.str [44]) := rfl
abbrev digs : List Nat := [48, 49, 50, 51, 52, 53, 54, 55, 56, 57]
abbrev lets : List Nat := [97, 98, 99, 100, 101, 102, 103, 104, 105, 106, 107, 108, 109, 110, 111, 112, 113, 114, 115, 116, 117, 118, 119, 120, 121, 122]
theorem g11 : con[11]? = some (.str digs) := rfl
theorem g12 : con[12]? = some (.str lets) := rfl
theorem g13 : con[13]? = some (.int 12) := rfl
theorem g14 : con[14]? = some (.int 100) := rfl
theorem g10 : con[10]? = some (.int 8) := rfl
theorem g0 : con[0]? = some (.int 4000) := rfl
theorem g1 : con[1]? = some (.str digs) := rfl
theorem g2 : con[2]? = some (.str lets) := rfl
theorem g3 : con[3]? = some (.int 12) := rfl
theorem g8 : con[8]? = some (.int 100) := rfl
abbrev marks : List Nat := [44, 61, 43, 34, 92]
theorem in_marks {c : Nat} : cmpD .In (.str [c]) (.tup [.str [44], .str [61], .str [43], .str [34], .str [92]]) = some (decide (c ∈ marks)) := by
  simp [cmpD, inD, flatD, eqEach, eqD, beq_flip]
theorem nin_marks {c : Nat} : cmpD .NotIn (.str [c]) (.tup [.str [44], .str [61], .str [43], .str [34], .str [92]]) = some (!decide (c ∈ marks)) := by
  simp [cmpD, inD, flatD, eqEach, eqD, beq_flip]
theorem sl_mid {p w z signs : List Nat} (hl : signs.length ≤ lim) (e : signs = p ++ w ++ z) : slD (.str signs) (some (p.length : Int)) (some ((p ++ w).length : Nat)) = some (.str w) := by
  show (if _ then _ else _) = _
  rw [if_pos hl]
  unfold cutL
  rw [HT.sIx_nat, HT.sIx_nat, e]
  congr 2
  simp
def wordC (c : Nat) : Prop := c ∈ lets ∨ c ∈ digs
/-- a text and a writing of it; b: no bare blank stands before -/
inductive Pc : Bool → List Nat → List Nat → Prop
  | nil : Pc true [] []
  | sign {b : Bool} {c : Nat} {t e : List Nat} : c ≠ 32 → c ∉ marks → Pc true t e → Pc b (c :: t) (c :: e)
  | blank {b : Bool} {t e : List Nat} : Pc false t e → Pc b (32 :: t) (32 :: e)
  | esc {b : Bool} {c : Nat} {t e : List Nat} : (c = 32 ∨ c ∈ marks) → Pc true t e → Pc b (c :: t) (92 :: c :: e)
theorem rep_flat {k : Nat} : (List.replicate k [32]).flatten = List.replicate k 32 := by
  induction k with
  | zero => rfl
  | succ k ih => simp [List.replicate_succ, ih]
abbrev bl (k : Nat) : List Nat := List.replicate k 32
/-- a row of a written name -/
structure Row (w T row : List Nat) : Prop where
  ex : ∃ (c : Nat) (w' e : List Nat) (b0 b1 b2 b3 : Nat), w = c :: w' ∧ row = bl b0 ++ (c :: w') ++ bl b1 ++ [61] ++ bl b2 ++ e ++ bl b3 ∧ c ∈ lets ∧ (∀ x ∈ w', wordC x) ∧ w'.length < 12 ∧ T ≠ [] ∧ T.length ≤ 100 ∧ Pc true T e ∧ e.head? ≠ some 32 ∧ (b0 ≤ 2 ∧ b1 ≤ 2 ∧ b2 ≤ 2 ∧ b3 ≤ 2) ∧ ∀ x ∈ T, 32 ≤ x ∧ x ≤ 126
theorem let_ne {c : Nat} (h : c ∈ lets) : c ≠ 32 := by
  rintro rfl
  revert h
  decide
theorem head_bl {k : Nat} {z : List Nat} {x y : Nat} (h : (bl k ++ y :: z).head? = some x) : x = 32 ∨ x = y := by
  cases k with
  | zero => simp at h; exact .inr h.symm
  | succ k => simp [List.replicate_succ] at h; exact .inl h.symm
theorem pc_ne {b : Bool} {T e : List Nat} (h : Pc b T e) (hT : T ≠ []) : e ≠ [] := by
  cases h with
  | nil => exact absurd rfl hT
  | sign _ _ _ => simp
  | blank _ => simp
  | esc _ _ => simp
abbrev Pr := List Nat × List Nat
def pairD (p : Pr) : D := .tup [.str p.1, .str p.2]
def nameD (ps : List Pr) : D := .tup (ps.map pairD)
abbrev RowP (p : Pr) (r : List Nat) : Prop := Row p.1 p.2 r
theorem join1 {s r : List Nat} : joinL s [r] = r := rfl
theorem join2 {s r r2 : List Nat} {rs : List (List Nat)} : joinL s (r :: r2 :: rs) = r ++ s ++ joinL s (r2 :: rs) := by
  rw [List.append_assoc]
  rfl
theorem pc_len {b : Bool} {T e : List Nat} (h : Pc b T e) : e.length ≤ 2 * T.length := by
  induction h with
  | nil => simp
  | sign _ _ _ ih => simp; omega
  | blank _ ih => simp; omega
  | esc _ _ ih => simp; omega
theorem pc_print {b : Bool} {T e : List Nat} (h : Pc b T e) (hT : ∀ x ∈ T, 32 ≤ x ∧ x ≤ 126) : ∀ x ∈ e, 32 ≤ x ∧ x ≤ 126 := by
  induction h with
  | nil => exact hT
  | sign _ _ _ ih =>
    intro x hx
    rcases List.mem_cons.mp hx with rfl | hx
    · exact hT _ (List.mem_cons_self ..)
    · exact ih (fun y hy => hT y (List.mem_cons_of_mem _ hy)) x hx
  | blank _ ih =>
    intro x hx
    rcases List.mem_cons.mp hx with rfl | hx
    · exact hT _ (List.mem_cons_self ..)
    · exact ih (fun y hy => hT y (List.mem_cons_of_mem _ hy)) x hx
  | esc _ _ ih =>
    intro x hx
    rcases List.mem_cons.mp hx with rfl | hx
    · omega
    · rcases List.mem_cons.mp hx with rfl | hx
      · exact hT _ (List.mem_cons_self ..)
      · exact ih (fun y hy => hT y (List.mem_cons_of_mem _ hy)) x hx
theorem word_print {c : Nat} (h : wordC c) : 32 ≤ c ∧ c ≤ 126 := by
  have a : ∀ c ∈ lets ++ digs, 32 ≤ c ∧ c ≤ 126 := by decide
  exact a c (List.mem_append.mpr h)
theorem row_print {w T row : List Nat} (r : Row w T row) : ∀ x ∈ row, 32 ≤ x ∧ x ≤ 126 := by
  obtain ⟨c, w', e, b0, b1, b2, b3, rfl, rfl, hc, hw, h12, hT, h100, pc, he, hb, hp⟩ := r
  intro x hx
  simp only [List.mem_append, List.mem_replicate, List.mem_cons, List.not_mem_nil, or_false] at hx
  rcases hx with (((((hx | hx) | hx) | hx) | hx) | hx) | hx
  · omega
  · rcases hx with rfl | hx
    · exact word_print (.inl hc)
    · exact word_print (hw x hx)
  · omega
  · omega
  · omega
  · exact pc_print pc hp x hx
  · omega
theorem row_len {w T row : List Nat} (r : Row w T row) : row.length ≤ 230 := by
  obtain ⟨c, w', e, b0, b1, b2, b3, rfl, rfl, hc, hw, h12, hT, h100, pc, he, hb, hp⟩ := r
  have := pc_len pc
  simp
  omega
theorem join_print {ps : List Pr} {rows : List (List Nat)} (a : All2 RowP ps rows) : ∀ x ∈ joinL [44] rows, 32 ≤ x ∧ x ≤ 126 := by
  induction a with
  | nil => intro x hx; cases hx
  | @cons p r ps rows h a ih =>
    cases a with
    | nil => exact row_print h
    | @cons q r2 qs rs h2 a2 =>
      rw [join2]
      intro x hx
      simp only [List.mem_append, List.mem_cons, List.not_mem_nil, or_false] at hx
      rcases hx with (hx | hx) | hx
      · exact row_print h x hx
      · omega
      · exact ih x hx
theorem join_len {ps : List Pr} {rows : List (List Nat)} (a : All2 RowP ps rows) : (joinL [44] rows).length ≤ 231 * rows.length := by
  induction a with
  | nil => exact Nat.le_refl _
  | @cons p r ps rows h a ih =>
    have := row_len h
    cases a with
    | nil => rw [join1]; simp; omega
    | @cons q r2 qs rs h2 a2 =>
      rw [join2]
      simp at ih ⊢
      omega
structure VP (p : Pr) : Prop where
  w : ∃ c w', p.1 = c :: w' ∧ c ∈ lets ∧ (∀ x ∈ w', wordC x) ∧ w'.length < 12
  ne : p.2 ≠ []
  len : p.2.length ≤ 100
  pr : ∀ x ∈ p.2, 32 ≤ x ∧ x ≤ 126
theorem isword_ok {n : Nat} {p : Pr} (v : VP p) : W (call (n + 1) 15 [.str p.1]) (fun d => d = .bl true) := by
  obtain ⟨c, w', e, hc, hw, h12⟩ := v.w
  rw [e]
  have hl' : (c :: w').length ≤ lim := Nat.le_trans (show (c :: w').length ≤ 12 by simp; omega) (by decide)
  refine W_call (d := d15) rfl (by decide) rfl ?_
  show W (exSs con _ [] b15 [some (.str (c :: w')), none]) _
  unfold b15
  have k1 : decide ((1 : Int) ≤ ((c :: w').length : Nat)) = true := by simp; omega
  have k2 : decide (((c :: w').length : Int) ≤ 12) = true := by simp; omega
  have i0 : ixD (.str (c :: w')) (.int 0) = some (.str [c]) := ix_at (p := []) hl' rfl
  refine W_skip (W_or false (W_not (W_bi (W_es (W_v rfl (W_es1 (by simp only [W_ret, evM, evMs, evE, evEs, evCo, evCt, evIt, getV, mask, wipeE, startE, bret, opt_some, calm_ret, ofBool, List.getElem?_cons_zero, List.getElem?_cons_succ, Option.bind_some, Option.map_some, id_eq, List.set_cons_zero, List.set_cons_succ, List.map_cons, List.map_nil, List.length_cons, List.length_nil, List.cons_append, List.nil_append, Nat.reduceAdd, reduceIte, ite_true, ite_false, Bool.false_eq_true, Bool.not_true, Bool.not_false, if_true, if_false, truth_bl, setAll, bindT, intOf, noL, noLs, Bool.and_true, Bool.true_and, lim3, cmp_lt, cmp_le, cmp_eqS, cmp_neS, cmp_eqI, cmp_in, cmp_nin, add_int, add_str, sub_int, isi_str, isi_tup, items_str, items_tup, items_lst, enum_str, len_tup, len_lst]; exact ⟨_, rfl, true, rfl, rfl⟩)))))) (fun _ => W_or false (W_not ?_) (fun _ => W_one ?_) (fun h => by cases h)) (fun h => by cases h)) (W_rets ?_)
  · have l1 := len_str hl'
    simp -implicitDefEqProofs only [W_ret, evE, evEs, getV, bret, opt_some, List.getElem?_cons_zero, Option.bind_some, id_eq, l1, cmp_le, k1, k2, g13, if_true, ofBool, Option.map_some]
    exact ⟨true, rfl, rfl⟩
  · refine W_cmp (W_ix (W_v rfl (W_c ⟨_, i0, W_g g12 ⟨_, cmp_nin, ?_⟩⟩)))
    rw [decide_eq_true hc]
    rfl
  · refine W_bi (W_es1 (W_compG (fun _ => .bl true) (W_seq (W_v rfl ⟨_, rfl, by simpa using hl', fun x hx => ?_, ?_⟩))))
    · obtain ⟨y, hy, rfl⟩ := List.mem_map.mp hx
      refine ⟨_, rfl, ?_⟩
      have hy' : wordC y := by
        rcases List.mem_cons.mp hy with rfl | hy
        · exact .inl hc
        · exact hw y hy
      refine W_or (decide (y ∈ lets)) (by simp only [W_ret, evM, evMs, evE, evEs, evCo, evCt, evIt, getV, mask, wipeE, startE, bret, opt_some, calm_ret, ofBool, List.getElem?_cons_zero, List.getElem?_cons_succ, Option.bind_some, Option.map_some, id_eq, List.set_cons_zero, List.set_cons_succ, List.map_cons, List.map_nil, List.length_cons, List.length_nil, List.cons_append, List.nil_append, Nat.reduceAdd, reduceIte, ite_true, ite_false, Bool.false_eq_true, Bool.not_true, Bool.not_false, if_true, if_false, truth_bl, setAll, bindT, intOf, noL, noLs, Bool.and_true, Bool.true_and, lim3, cmp_lt, cmp_le, cmp_eqS, cmp_neS, cmp_eqI, cmp_in, cmp_nin, add_int, add_str, sub_int, isi_str, isi_tup, items_str, items_tup, items_lst, enum_str, len_tup, len_lst, g12]) (fun h => ?_) (fun _ => rfl)
      have h2 : y ∈ digs := hy'.resolve_left (of_decide_eq_false h)
      simp only [W_ret, evM, evMs, evE, evEs, evCo, evCt, evIt, getV, mask, wipeE, startE, bret, opt_some, calm_ret, ofBool, List.getElem?_cons_zero, List.getElem?_cons_succ, Option.bind_some, Option.map_some, id_eq, List.set_cons_zero, List.set_cons_succ, List.map_cons, List.map_nil, List.length_cons, List.length_nil, List.cons_append, List.nil_append, Nat.reduceAdd, reduceIte, ite_true, ite_false, Bool.false_eq_true, Bool.not_true, Bool.not_false, if_true, if_false, truth_bl, setAll, bindT, intOf, noL, noLs, Bool.and_true, Bool.true_and, lim3, cmp_lt, cmp_le, cmp_eqS, cmp_neS, cmp_eqI, cmp_in, cmp_nin, add_int, add_str, sub_int, isi_str, isi_tup, items_str, items_tup, items_lst, enum_str, len_tup, len_lst, g11, decide_eq_true h2]
    · refine ⟨_, ?_, rfl⟩
      have e : (((c :: w').map fun c => D.str [c]).map fun _ => D.bl true) = ((c :: w').map fun _ => true).map .bl := by simp
      rw [e, all_bools]
      simp
theorem istext_ok {n : Nat} {p : Pr} (v : VP p) : W (call (n + 1) 16 [.str p.2]) (fun d => d = .bl true) := by
  have h1 : 1 ≤ p.2.length := by
    have := v.ne
    cases e : p.2 with
    | nil => exact absurd e this
    | cons _ _ => simp
  have h2 := v.len
  have h := v.pr
  generalize p.2 = signs at h1 h2 h ⊢
  have hl' : signs.length ≤ lim := Nat.le_trans h2 (by decide)
  refine W_call (d := d16) rfl (by decide) rfl ?_
  show W (exSs con _ [] b16 [some (.str signs), none]) _
  unfold b16
  have k1 : decide ((1 : Int) ≤ (signs.length : Nat)) = true := by simp; omega
  have k2 : decide ((signs.length : Int) ≤ 100) = true := by simp; omega
  refine W_skip (W_or false (W_not (W_bi (W_es (W_v rfl (W_es1 (by simp only [W_ret, evM, evMs, evE, evEs, evCo, evCt, evIt, getV, mask, wipeE, startE, bret, opt_some, calm_ret, ofBool, List.getElem?_cons_zero, List.getElem?_cons_succ, Option.bind_some, Option.map_some, id_eq, List.set_cons_zero, List.set_cons_succ, List.map_cons, List.map_nil, List.length_cons, List.length_nil, List.cons_append, List.nil_append, Nat.reduceAdd, reduceIte, ite_true, ite_false, Bool.false_eq_true, Bool.not_true, Bool.not_false, if_true, if_false, truth_bl, setAll, bindT, intOf, noL, noLs, Bool.and_true, Bool.true_and, lim3, cmp_lt, cmp_le, cmp_eqS, cmp_neS, cmp_eqI, cmp_in, cmp_nin, add_int, add_str, sub_int, isi_str, isi_tup, items_str, items_tup, items_lst, enum_str, len_tup, len_lst]; exact ⟨_, rfl, true, rfl, rfl⟩)))))) (fun _ => W_one (W_not ?_)) (fun h => by cases h)) (W_rets ?_)
  · have l1 := len_str hl'
    simp -implicitDefEqProofs only [W_ret, evE, evEs, getV, bret, opt_some, List.getElem?_cons_zero, Option.bind_some, id_eq, l1, cmp_le, k1, k2, g14, if_true, ofBool, Option.map_some]
    exact ⟨true, rfl, rfl⟩
  · refine W_bi (W_es1 (W_compG (fun _ => .bl true) (W_seq (W_v rfl ⟨_, rfl, by simpa using hl', fun x hx => ?_, ?_⟩))))
    · obtain ⟨c, hc, rfl⟩ := List.mem_map.mp hx
      have hc := h c hc
      refine ⟨_, rfl, ?_⟩
      simp only [W_ret, evM, evMs, evE, evEs, evCo, evCt, evIt, getV, mask, wipeE, startE, bret, opt_some, calm_ret, ofBool, List.getElem?_cons_zero, List.getElem?_cons_succ, Option.bind_some, Option.map_some, id_eq, List.set_cons_zero, List.set_cons_succ, List.map_cons, List.map_nil, List.length_cons, List.length_nil, List.cons_append, List.nil_append, Nat.reduceAdd, reduceIte, ite_true, ite_false, Bool.false_eq_true, Bool.not_true, Bool.not_false, if_true, if_false, truth_bl, setAll, bindT, intOf, noL, noLs, Bool.and_true, Bool.true_and, lim3, cmp_lt, cmp_le, cmp_eqS, cmp_neS, cmp_eqI, cmp_in, cmp_nin, add_int, add_str, sub_int, isi_str, isi_tup, items_str, items_tup, items_lst, enum_str, len_tup, len_lst, leS hc.1, leS hc.2]
    · refine ⟨_, ?_, rfl⟩
      have e : ((signs.map fun c => D.str [c]).map fun _ => D.bl true) = (signs.map fun _ => true).map .bl := by simp
      rw [e, all_bools]
      simp
theorem ispair_ok {n : Nat} {p : Pr} (v : VP p) : W (call (n + 2) 17 [pairD p]) (fun d => d = .bl true) := by
  refine W_call (d := d17) rfl (by decide) rfl ?_
  show W (exSs con _ [] b17 [some (.tup [.str p.1, .str p.2])]) _
  unfold b17
  refine W_rets ?_
  refine W_and true (by simp only [W_ret, evM, evMs, evE, evEs, evCo, evCt, evIt, getV, mask, wipeE, startE, bret, opt_some, calm_ret, ofBool, List.getElem?_cons_zero, List.getElem?_cons_succ, Option.bind_some, Option.map_some, id_eq, List.set_cons_zero, List.set_cons_succ, List.map_cons, List.map_nil, List.length_cons, List.length_nil, List.cons_append, List.nil_append, Nat.reduceAdd, reduceIte, ite_true, ite_false, Bool.false_eq_true, Bool.not_true, Bool.not_false, if_true, if_false, truth_bl, setAll, bindT, intOf, noL, noLs, Bool.and_true, Bool.true_and, lim3, cmp_lt, cmp_le, cmp_eqS, cmp_neS, cmp_eqI, cmp_in, cmp_nin, add_int, add_str, sub_int, isi_str, isi_tup, items_str, items_tup, items_lst, enum_str, len_tup, len_lst]) (fun _ => W_and true (by simp only [W_ret, evM, evMs, evE, evEs, evCo, evCt, evIt, getV, mask, wipeE, startE, bret, opt_some, calm_ret, ofBool, List.getElem?_cons_zero, List.getElem?_cons_succ, Option.bind_some, Option.map_some, id_eq, List.set_cons_zero, List.set_cons_succ, List.map_cons, List.map_nil, List.length_cons, List.length_nil, List.cons_append, List.nil_append, Nat.reduceAdd, reduceIte, ite_true, ite_false, Bool.false_eq_true, Bool.not_true, Bool.not_false, if_true, if_false, truth_bl, setAll, bindT, intOf, noL, noLs, Bool.and_true, Bool.true_and, lim3, cmp_lt, cmp_le, cmp_eqS, cmp_neS, cmp_eqI, cmp_in, cmp_nin, add_int, add_str, sub_int, isi_str, isi_tup, items_str, items_tup, items_lst, enum_str, len_tup, len_lst]; rfl) (fun _ => W_and true ?_ (fun _ => W_one ?_) (fun h => by cases h)) (fun h => by cases h)) (fun h => by cases h)
  · exact W_callX (W_es1 (W_ix (W_v rfl (W_c ⟨_, rfl, isword_ok v⟩))))
  · exact W_callX (W_es1 (W_ix (W_v rfl (W_c ⟨_, rfl, istext_ok v⟩))))
theorem isname_ok {n : Nat} {ps : List Pr} (v : ∀ p ∈ ps, VP p) (h8 : ps.length ≤ 8) : W (call (n + 3) 18 [nameD ps]) (fun d => d = .bl true) := by
  refine W_call (d := d18) rfl (by decide) rfl ?_
  show W (exSs con _ [] b18 [some (.tup (ps.map pairD)), none]) _
  unfold b18
  refine W_rets ?_
  have k1 : decide (((ps.map pairD).length : Int) ≤ 8) = true := by simp; omega
  refine W_and true (by simp only [W_ret, evM, evMs, evE, evEs, evCo, evCt, evIt, getV, mask, wipeE, startE, bret, opt_some, calm_ret, ofBool, List.getElem?_cons_zero, List.getElem?_cons_succ, Option.bind_some, Option.map_some, id_eq, List.set_cons_zero, List.set_cons_succ, List.map_cons, List.map_nil, List.length_cons, List.length_nil, List.cons_append, List.nil_append, Nat.reduceAdd, reduceIte, ite_true, ite_false, Bool.false_eq_true, Bool.not_true, Bool.not_false, if_true, if_false, truth_bl, setAll, bindT, intOf, noL, noLs, Bool.and_true, Bool.true_and, lim3, cmp_lt, cmp_le, cmp_eqS, cmp_neS, cmp_eqI, cmp_in, cmp_nin, add_int, add_str, sub_int, isi_str, isi_tup, items_str, items_tup, items_lst, enum_str, len_tup, len_lst]) (fun _ => W_and true (by simp only [W_ret, evM, evMs, evE, evEs, evCo, evCt, evIt, getV, mask, wipeE, startE, bret, opt_some, calm_ret, ofBool, List.getElem?_cons_zero, List.getElem?_cons_succ, Option.bind_some, Option.map_some, id_eq, List.set_cons_zero, List.set_cons_succ, List.map_cons, List.map_nil, List.length_cons, List.length_nil, List.cons_append, List.nil_append, Nat.reduceAdd, reduceIte, ite_true, ite_false, Bool.false_eq_true, Bool.not_true, Bool.not_false, if_true, if_false, truth_bl, setAll, bindT, intOf, noL, noLs, Bool.and_true, Bool.true_and, lim3, cmp_lt, cmp_le, cmp_eqS, cmp_neS, cmp_eqI, cmp_in, cmp_nin, add_int, add_str, sub_int, isi_str, isi_tup, items_str, items_tup, items_lst, enum_str, len_tup, len_lst, g10, k1]) (fun _ => W_one ?_) (fun h => by cases h)) (fun h => by cases h)
  refine W_bi (W_es1 (W_compG (fun _ => .bl true) (W_seq (W_v rfl ⟨_, rfl, Nat.le_trans (show (ps.map pairD).length ≤ 8 by simpa using h8) (by decide), fun x hx => ?_, ?_⟩))))
  · obtain ⟨p, hp, rfl⟩ := List.mem_map.mp hx
    exact ⟨_, rfl, W_callX (W_es1 (W_v rfl (ispair_ok (v p hp))))⟩
  · refine ⟨_, ?_, rfl⟩
    have e : ((ps.map pairD).map fun _ => D.bl true) = (ps.map fun _ => true).map .bl := by simp
    rw [e, all_bools]
    simp
/-! ### escapes -/
def edge (n i c : Nat) : Prop := c = 32 ∧ (i = 0 ∨ i + 1 = n)
instance {n i c : Nat} : Decidable (edge n i c) := inferInstanceAs (Decidable (_ ∧ _))
def escSign (n i c : Nat) : List Nat := if edge n i c ∨ c ∈ marks then [92, c] else [c]
def escFrom (n : Nat) : Nat → List Nat → List Nat
  | _, [] => []
  | i, c :: t => escSign n i c ++ escFrom n (i + 1) t
theorem esc_pc {n : Nat} : ∀ (t : List Nat) (i : Nat) (b : Bool), i + t.length = n → (t = [] → b = true) → Pc b t (escFrom n i t)
  | [], i, b, _, h => by
    rw [h rfl]
    exact .nil
  | c :: t, i, b, hn, h => by
    unfold escFrom escSign
    by_cases hm : edge n i c ∨ c ∈ marks
    · rw [if_pos hm]
      refine .esc ?_ (esc_pc t (i + 1) true (by simp at hn; omega) fun _ => rfl)
      rcases hm with hm | hm
      · exact .inl hm.1
      · exact .inr hm
    · rw [if_neg hm]
      have h1 : ¬ edge n i c := fun z => hm (.inl z)
      have h2 : c ∉ marks := fun z => hm (.inr z)
      by_cases hc : c = 32
      · subst hc
        refine .blank (esc_pc t (i + 1) false (by simp at hn; omega) fun z => ?_)
        subst z
        exact (h1 ⟨rfl, .inr (by simpa using hn)⟩).elim
      · exact .sign hc h2 (esc_pc t (i + 1) true (by simp at hn; omega) fun _ => rfl)
theorem esc_head {n : Nat} {t : List Nat} (hn : t ≠ []) : (escFrom n 0 t).head? ≠ some 32 := by
  cases t with
  | nil => exact absurd rfl hn
  | cons c t =>
    unfold escFrom escSign
    by_cases hm : edge n 0 c ∨ c ∈ marks
    · rw [if_pos hm]; simp
    · rw [if_neg hm]
      intro z
      simp at z
      subst z
      exact hm (.inl ⟨rfl, .inl rfl⟩)
theorem esc_len {n : Nat} : ∀ (t : List Nat) (i : Nat), (escFrom n i t).length ≤ 2 * t.length
  | [], i => by simp [escFrom]
  | c :: t, i => by
    have := esc_len (n := n) t (i + 1)
    unfold escFrom escSign
    split <;> simp <;> omega
abbrev escT (t : List Nat) : List Nat := escFrom t.length 0 t
def rowOf (p : Pr) : List Nat := p.1 ++ [61] ++ escT p.2
theorem row_of {p : Pr} (v : VP p) : RowP p (rowOf p) := by
  obtain ⟨c, w', e, hc, hw, h12⟩ := v.w
  exact ⟨c, w', escT p.2, 0, 0, 0, 0, e, by simp [rowOf, e], hc, hw, h12, v.ne, v.len, esc_pc _ _ _ (by simp) (fun _ => rfl), esc_head v.ne, by decide, v.pr⟩
theorem rows_of {ps : List Pr} (v : ∀ p ∈ ps, VP p) : All2 RowP ps (ps.map rowOf) := by
  induction ps with
  | nil => exact .nil
  | cons p ps ih => exact .cons (row_of (v p (List.mem_cons_self ..))) (ih fun q hq => v q (List.mem_cons_of_mem _ hq))
def textOf (ps : List Pr) : List Nat := joinL [44] (ps.map rowOf)
theorem in2 {i a b : Int} : cmpD .In (.int i) (.tup [.int a, .int b]) = some (decide (i = a ∨ i = b)) := by
  have f : ∀ x y : Int, (x == y) = decide (y = x) := fun x y => by
    by_cases h : y = x
    · simp [h]
    · have : ¬ x = y := fun z => h z.symm
      simp [h, this]
  simp [cmpD, inD, flatD, eqEach, eqD, f]
def enumF : Nat → List D → List D
  | _, [] => []
  | i, x :: xs => .tup [.int (i : Nat), x] :: enumF (i + 1) xs
theorem enum_eq {xs : List D} : enumD xs = enumF 0 xs := by
  have : ∀ (xs : List D) (s : Nat), (List.range' s xs.length).zipWith (fun i x => D.tup [.int (i : Nat), x]) xs = enumF s xs := fun xs => by
    induction xs with
    | nil => intro s; rfl
    | cons x xs ih =>
      intro s
      rw [List.length_cons, List.range'_succ, List.zipWith_cons_cons, ih (s + 1)]
      rfl
  unfold enumD
  rw [List.range_eq_range']
  exact this xs 0
theorem enumF_get : ∀ (xs : List D) (s i : Nat), (enumF s xs)[i]? = (xs[i]?).map fun x => .tup [.int ((s + i : Nat) : Int), x]
  | [], s, i => by simp [enumF]
  | x :: xs, s, 0 => by simp [enumF]
  | x :: xs, s, i + 1 => by
    rw [enumF, List.getElem?_cons_succ, enumF_get xs (s + 1) i, List.getElem?_cons_succ]
    have : s + 1 + i = s + (i + 1) := by omega
    rw [this]
theorem enumF_len : ∀ (xs : List D) (s : Nat), (enumF s xs).length = xs.length
  | [], _ => rfl
  | x :: xs, s => by simp [enumF, enumF_len xs (s + 1)]
/-- text_of_sign -/
theorem tsign_ok {n : Nat} {p z T : List Nat} {c : Nat} (hl : T.length ≤ lim) (e : T = p ++ c :: z) : W (call (n + 1) 12 [.str T, .int (p.length : Nat)]) (fun d => d = .str (escSign T.length p.length c)) := by
  refine W_call (d := d12) rfl (by decide) rfl ?_
  show W (exSs con _ [] b12 [some (.str T), some (.int (p.length : Nat)), none]) _
  unfold b12
  refine W_set (W_evM ?_)
  have hE : W (evE con (callD con fs 28 n) (.and_ (.cmp .Eq (.ix (.v 0) (.v 1)) (.g 4)) (.one (.cmp .In (.v 1) (.tup (.cons (.c (.int 0)) (.cons (.bin .Sub (.bi .len (.cons (.v 0) .nil)) (.c (.int 1))) .nil)))))) [some (.str T), some (.int (p.length : Nat)), none]) (fun d => d = .bl (decide (edge T.length p.length c))) := by
    refine W_and ([c] == [32]) (by simp only [W_ret, evM, evMs, evE, evEs, evCo, evCt, evIt, getV, mask, wipeE, startE, bret, opt_some, calm_ret, ofBool, List.getElem?_cons_zero, List.getElem?_cons_succ, Option.bind_some, Option.map_some, id_eq, List.set_cons_zero, List.set_cons_succ, List.map_cons, List.map_nil, List.length_cons, List.length_nil, List.cons_append, List.nil_append, Nat.reduceAdd, reduceIte, ite_true, ite_false, Bool.false_eq_true, Bool.not_true, Bool.not_false, if_true, if_false, truth_bl, setAll, bindT, intOf, noL, noLs, Bool.and_true, Bool.true_and, lim3, cmp_lt, cmp_le, cmp_eqS, cmp_neS, cmp_eqI, cmp_in, cmp_nin, add_int, add_str, sub_int, isi_str, isi_tup, items_str, items_tup, items_lst, enum_str, len_tup, len_lst, ix_at hl e, g4]) (fun h => W_one ?_) (fun h => ?_)
    · simp only [W_ret, evM, evMs, evE, evEs, evCo, evCt, evIt, getV, mask, wipeE, startE, bret, opt_some, calm_ret, ofBool, List.getElem?_cons_zero, List.getElem?_cons_succ, Option.bind_some, Option.map_some, id_eq, List.set_cons_zero, List.set_cons_succ, List.map_cons, List.map_nil, List.length_cons, List.length_nil, List.cons_append, List.nil_append, Nat.reduceAdd, reduceIte, ite_true, ite_false, Bool.false_eq_true, Bool.not_true, Bool.not_false, if_true, if_false, truth_bl, setAll, bindT, intOf, noL, noLs, Bool.and_true, Bool.true_and, lim3, cmp_lt, cmp_le, cmp_eqS, cmp_neS, cmp_eqI, cmp_in, cmp_nin, add_int, add_str, sub_int, isi_str, isi_tup, items_str, items_tup, items_lst, enum_str, len_tup, len_lst, len_str hl]
      rw [if_pos (by decide)]
      simp only [W_ret, evM, evMs, evE, evEs, evCo, evCt, evIt, getV, mask, wipeE, startE, bret, opt_some, calm_ret, ofBool, List.getElem?_cons_zero, List.getElem?_cons_succ, Option.bind_some, Option.map_some, id_eq, List.set_cons_zero, List.set_cons_succ, List.map_cons, List.map_nil, List.length_cons, List.length_nil, List.cons_append, List.nil_append, Nat.reduceAdd, reduceIte, ite_true, ite_false, Bool.false_eq_true, Bool.not_true, Bool.not_false, if_true, if_false, truth_bl, setAll, bindT, intOf, noL, noLs, Bool.and_true, Bool.true_and, lim3, cmp_lt, cmp_le, cmp_eqS, cmp_neS, cmp_eqI, cmp_in, cmp_nin, add_int, add_str, sub_int, isi_str, isi_tup, items_str, items_tup, items_lst, enum_str, len_tup, len_lst, in2]
      have hc : c = 32 := by simpa using h
      congr 1
      apply decide_eq_decide.mpr
      unfold edge
      omega
    · have hc : c ≠ 32 := by simpa using h
      rw [decide_eq_false (fun z => hc z.1)]
  refine hE.mono fun d hd => ?_
  subst hd
  refine W_rets (W_ite ?_)
  refine W_or (decide (edge T.length p.length c)) (W_v rfl rfl) (fun h => W_one ?_) (fun h => ⟨true, rfl, fun _ => ?_, fun z => (by cases z)⟩)
  · simp only [W_ret, evM, evMs, evE, evEs, evCo, evCt, evIt, getV, mask, wipeE, startE, bret, opt_some, calm_ret, ofBool, List.getElem?_cons_zero, List.getElem?_cons_succ, Option.bind_some, Option.map_some, id_eq, List.set_cons_zero, List.set_cons_succ, List.map_cons, List.map_nil, List.length_cons, List.length_nil, List.cons_append, List.nil_append, Nat.reduceAdd, reduceIte, ite_true, ite_false, Bool.false_eq_true, Bool.not_true, Bool.not_false, if_true, if_false, truth_bl, setAll, bindT, intOf, noL, noLs, Bool.and_true, Bool.true_and, lim3, cmp_lt, cmp_le, cmp_eqS, cmp_neS, cmp_eqI, cmp_in, cmp_nin, add_int, add_str, sub_int, isi_str, isi_tup, items_str, items_tup, items_lst, enum_str, len_tup, len_lst, ix_at hl e, g5, in_marks]
    refine ⟨_, rfl, fun h2 => ?_, fun h2 => ?_⟩
    · simp only [g6]
      simp only [W_ret, evM, evMs, evE, evEs, evCo, evCt, evIt, getV, mask, wipeE, startE, bret, opt_some, calm_ret, ofBool, List.getElem?_cons_zero, List.getElem?_cons_succ, Option.bind_some, Option.map_some, id_eq, List.set_cons_zero, List.set_cons_succ, List.map_cons, List.map_nil, List.length_cons, List.length_nil, List.cons_append, List.nil_append, Nat.reduceAdd, reduceIte, ite_true, ite_false, Bool.false_eq_true, Bool.not_true, Bool.not_false, if_true, if_false, truth_bl, setAll, bindT, intOf, noL, noLs, Bool.and_true, Bool.true_and, lim3, cmp_lt, cmp_le, cmp_eqS, cmp_neS, cmp_eqI, cmp_in, cmp_nin, add_int, add_str, sub_int, isi_str, isi_tup, items_str, items_tup, items_lst, enum_str, len_tup, len_lst]
      rw [add_str (a := [92]) (b := [c]) (show (2 : Nat) ≤ lim by decide)]
      simp only [W_ret, evM, evMs, evE, evEs, evCo, evCt, evIt, getV, mask, wipeE, startE, bret, opt_some, calm_ret, ofBool, List.getElem?_cons_zero, List.getElem?_cons_succ, Option.bind_some, Option.map_some, id_eq, List.set_cons_zero, List.set_cons_succ, List.map_cons, List.map_nil, List.length_cons, List.length_nil, List.cons_append, List.nil_append, Nat.reduceAdd, reduceIte, ite_true, ite_false, Bool.false_eq_true, Bool.not_true, Bool.not_false, if_true, if_false, truth_bl, setAll, bindT, intOf, noL, noLs, Bool.and_true, Bool.true_and, lim3, cmp_lt, cmp_le, cmp_eqS, cmp_neS, cmp_eqI, cmp_in, cmp_nin, add_int, add_str, sub_int, isi_str, isi_tup, items_str, items_tup, items_lst, enum_str, len_tup, len_lst]
      unfold escSign
      rw [if_pos (.inr (of_decide_eq_true h2))]
    · unfold escSign
      rw [if_neg]
      exact fun z => z.elim (of_decide_eq_false h) (of_decide_eq_false h2)
  · simp only [W_ret, evM, evMs, evE, evEs, evCo, evCt, evIt, getV, mask, wipeE, startE, bret, opt_some, calm_ret, ofBool, List.getElem?_cons_zero, List.getElem?_cons_succ, Option.bind_some, Option.map_some, id_eq, List.set_cons_zero, List.set_cons_succ, List.map_cons, List.map_nil, List.length_cons, List.length_nil, List.cons_append, List.nil_append, Nat.reduceAdd, reduceIte, ite_true, ite_false, Bool.false_eq_true, Bool.not_true, Bool.not_false, if_true, if_false, truth_bl, setAll, bindT, intOf, noL, noLs, Bool.and_true, Bool.true_and, lim3, cmp_lt, cmp_le, cmp_eqS, cmp_neS, cmp_eqI, cmp_in, cmp_nin, add_int, add_str, sub_int, isi_str, isi_tup, items_str, items_tup, items_lst, enum_str, len_tup, len_lst, ix_at hl e, g6]
    rw [add_str (a := [92]) (b := [c]) (show (2 : Nat) ≤ lim by decide)]
    simp only [W_ret, evM, evMs, evE, evEs, evCo, evCt, evIt, getV, mask, wipeE, startE, bret, opt_some, calm_ret, ofBool, List.getElem?_cons_zero, List.getElem?_cons_succ, Option.bind_some, Option.map_some, id_eq, List.set_cons_zero, List.set_cons_succ, List.map_cons, List.map_nil, List.length_cons, List.length_nil, List.cons_append, List.nil_append, Nat.reduceAdd, reduceIte, ite_true, ite_false, Bool.false_eq_true, Bool.not_true, Bool.not_false, if_true, if_false, truth_bl, setAll, bindT, intOf, noL, noLs, Bool.and_true, Bool.true_and, lim3, cmp_lt, cmp_le, cmp_eqS, cmp_neS, cmp_eqI, cmp_in, cmp_nin, add_int, add_str, sub_int, isi_str, isi_tup, items_str, items_tup, items_lst, enum_str, len_tup, len_lst]
    unfold escSign
    rw [if_pos (.inl (of_decide_eq_true h))]
/-- what a turn of enumerate gives -/
theorem enum_mem {T : List Nat} {x : D} (h : x ∈ enumD (T.map fun c => D.str [c])) : ∃ (p z : List Nat) (c : Nat), T = p ++ c :: z ∧ x = .tup [.int (p.length : Nat), .str [c]] := by
  rw [enum_eq] at h
  obtain ⟨i, hi⟩ := List.getElem?_of_mem h
  rw [enumF_get] at hi
  have hlt : i < T.length := by
    rcases Nat.lt_or_ge i T.length with h | h
    · exact h
    · rw [List.getElem?_eq_none (by simpa using h)] at hi
      cases hi
  rw [List.getElem?_map, List.getElem?_eq_getElem hlt] at hi
  refine ⟨T.take i, T.drop (i + 1), T[i], by simp, ?_⟩
  simp at hi
  rw [← hi]
  simp
  omega
def unE (n : Nat) : D → D
  | .tup [.int i, .str [c]] => .str (escSign n i.toNat c)
  | d => d
theorem un_map {n : Nat} : ∀ (t : List Nat) (i : Nat), ∃ zs : List (List Nat), (enumF i (t.map fun c => D.str [c])).map (unE n) = zs.map .str ∧ joinL [] zs = escFrom n i t ∧ zs.length = t.length ∧ (zs.map List.length).sum ≤ 2 * t.length
  | [], i => ⟨[], rfl, rfl, rfl, by simp⟩
  | c :: t, i => by
    obtain ⟨zs, h1, h2, h3, h4⟩ := un_map (n := n) t (i + 1)
    refine ⟨escSign n i c :: zs, ?_, ?_, by simp [h3], ?_⟩
    · rw [List.map_cons, enumF, List.map_cons, h1]
      rfl
    · rw [escFrom, ← h2]
      cases zs with
      | nil => simp [join1, joinL, TL.joinL]
      | cons z zs => rw [join2]; simp
    · have : (escSign n i c).length ≤ 2 := by unfold escSign; split <;> simp
      simp
      omega
theorem word_len {p : Pr} (v : VP p) : p.1.length ≤ 12 := by
  obtain ⟨c, w', e, hc, hw, h12⟩ := v.w
  rw [e]
  simp
  omega
theorem tpair_ok {n : Nat} {p : Pr} (v : VP p) : W (call (n + 2) 13 [pairD p]) (fun d => d = .str (rowOf p)) := by
  have hl : p.2.length ≤ lim := Nat.le_trans v.len (by decide)
  refine W_call (d := d13) rfl (by decide) rfl ?_
  show W (exSs con _ [] b13 [some (pairD p), none, none, none, none]) _
  unfold b13
  refine W_unp (W_evM (W_v rfl ⟨_, _, rfl, rfl, W_rets ?_⟩))
  have hw := word_len v
  have a1 : binD .Add (.str p.1) (.str [61]) = some (.str (p.1 ++ [61])) := add_str (Nat.le_trans (show p.1.length + [61].length ≤ 13 by simp; omega) (by decide))
  refine W_bin (W_bin (W_v rfl (W_g g9 ⟨_, a1, ?_⟩)))
  refine W_mt (W_c (W_es1 (W_compG (unE p.2.length) (W_enum (W_v rfl ⟨_, rfl, ?_, fun x hx => ?_, ?_⟩)))))
  · rw [enum_eq, enumF_len]
    simpa using hl
  · obtain ⟨q, z, c, e, rfl⟩ := enum_mem hx
    refine ⟨_, rfl, W_callX (W_es (W_v rfl (W_es1 (W_v rfl ?_))))⟩
    exact (tsign_ok (n := n) hl e).mono fun d hd => hd
  · rw [enum_eq]
    obtain ⟨zs, h1, h2, h3, h4⟩ := un_map (n := p.2.length) p.2 0
    have hlen := v.len
    rw [h1]
    refine ⟨_, join_str (Nat.le_trans (show (zs.map List.length).sum + zs.length * ([] : List Nat).length ≤ 200 by simp; omega) (by decide)), ?_⟩
    rw [h2]
    have hel : (escT p.2).length ≤ 2 * p.2.length := esc_len (n := p.2.length) p.2 0
    exact ⟨_, add_str (Nat.le_trans (show (p.1 ++ [61]).length + (escT p.2).length ≤ 300 by simp; omega) (by decide)), rfl⟩
theorem rowOf_len {p : Pr} (v : VP p) : (rowOf p).length ≤ 230 := row_len (row_of v)
theorem rows_sum {ps : List Pr} (v : ∀ p ∈ ps, VP p) : ((ps.map rowOf).map List.length).sum ≤ 230 * ps.length := by
  induction ps with
  | nil => simp
  | cons p ps ih =>
    have := ih fun q hq => v q (List.mem_cons_of_mem _ hq)
    have := rowOf_len (v p (List.mem_cons_self ..))
    simp at *
    omega
def unP : D → D
  | .tup [.str w, .str t] => .str (rowOf (w, t))
  | d => d
theorem unP_map {ps : List Pr} : (ps.map pairD).map unP = (ps.map rowOf).map .str := by
  simp [pairD, unP]
theorem join_rows {ps : List Pr} (v : ∀ p ∈ ps, VP p) (h8 : ps.length ≤ 8) : mtD .join (.str [44]) [.lst ((ps.map rowOf).map .str)] = some (.str (textOf ps)) := by
  have := rows_sum v
  exact join_str (Nat.le_trans (show ((ps.map rowOf).map List.length).sum + (ps.map rowOf).length * [44].length ≤ 2000 by simp at this ⊢; omega) (by decide))
theorem tname_ok {n : Nat} {ps : List Pr} (v : ∀ p ∈ ps, VP p) (h8 : ps.length ≤ 8) : W (call (n + 3) 14 [nameD ps]) (fun d => d = .str (textOf ps)) := by
  refine W_call (d := d14) rfl (by decide) rfl ?_
  show W (exSs con _ [] b14 [some (.tup (ps.map pairD)), none]) _
  unfold b14
  refine W_rets (W_mt (W_g g7 (W_es1 (W_compG unP (W_seq (W_v rfl ⟨_, rfl, Nat.le_trans (show (ps.map pairD).length ≤ 8 by simpa using h8) (by decide), fun x hx => ?_, ?_⟩))))))
  · obtain ⟨p, hp, rfl⟩ := List.mem_map.mp hx
    exact ⟨_, rfl, W_callX (W_es1 (W_v rfl (tpair_ok (v p hp))))⟩
  · rw [unP_map]
    exact ⟨_, join_rows v h8, rfl⟩
theorem ntext_ok {n : Nat} {ps : List Pr} (v : ∀ p ∈ ps, VP p) (h8 : ps.length ≤ 8) : W (call (n + 4) 19 [nameD ps]) (fun d => d = .str (textOf ps)) := by
  refine W_call (d := d19) rfl (by decide) rfl ?_
  show W (exSs con _ [] b19 [some (nameD ps)]) _
  unfold b19
  refine W_skip (W_not (W_callX (W_es1 (W_v rfl ((isname_ok v h8).mono fun d hd => ⟨true, hd, rfl⟩))))) (W_rets (W_callX (W_es1 (W_v rfl (tname_ok v h8)))))
def mark1 (k : Prop) [Decidable k] (c : Nat) : List Nat := if k ∨ c ∈ marks then [92] else []
theorem mark_edge {n i c : Nat} : mark1 (edge n i c) c ++ [c] = escSign n i c := by
  unfold mark1 escSign
  split <;> rfl
/-- is_edge -/
theorem edge_ok {F : Nat → List D → M D} {ρ : Ev.Env} {ic ii it i c : Nat} {T : List Nat} (hl : T.length ≤ lim) (h1 : getV ρ ic = some (.str [c])) (h2 : getV ρ ii = some (.int (i : Nat))) (h3 : getV ρ it = some (.str T)) :
    W (evE con F (.and_ (.cmp .Eq (.v ic) (.c (.str [32]))) (.one (.cmp .In (.v ii) (.tup (.cons (.c (.int 0)) (.cons (.bin .Sub (.bi .len (.cons (.v it) .nil)) (.c (.int 1))) .nil)))))) ρ) (fun d => d = .bl (decide (edge T.length i c))) := by
  refine W_and ([c] == [32]) (W_cmp (W_v h1 (W_c ⟨_, cmp_eqS, rfl⟩))) (fun h => W_one ?_) (fun h => ?_)
  · have hc : c = 32 := by simpa using h
    refine W_cmp (W_v h2 (W_tup (W_es (W_c (W_es1 (W_bin (W_bi (W_es1 (W_v h3 ⟨_, len_str hl, W_c ⟨_, sub_int, (by decide : (2 : Nat) ≤ lim), _, in2, ?_⟩⟩)))))))))
    congr 1
    apply decide_eq_decide.mpr
    unfold edge
    omega
  · have hc : c ≠ 32 := by simpa using h
    rw [decide_eq_false (fun z => hc z.1)]
/-- _law_one_of -/
theorem oneof_ok {n : Nat} {xs : List D} (h1 : 1 ≤ xs.length) (h2 : xs.length ≤ 1000) : W (call (n + 2) 9 [.dice, .lst xs]) (fun d => d ∈ xs) := by
  refine W_call (d := d9) rfl (by decide) rfl ?_
  show W (exSs con _ [] b9 [some .dice, some (.lst xs)]) _
  unfold b9
  refine W_rets (W_ix (W_v rfl (W_callX (W_es (W_v rfl (W_es1 (W_bi (W_es1 (W_v rfl ⟨_, rfl, ?_⟩)))))))))
  refine (W_roll (r := 28) (k := (xs.length : Int)) (by omega) (by omega)).mono fun d hd => ?_
  obtain ⟨j, hj, rfl⟩ := hd
  have hj' : j < xs.length := by omega
  exact ⟨xs[j], L2.atI_nat (List.getElem?_eq_getElem hj'), List.getElem_mem hj'⟩
def menuW : List (List Nat) := [[99, 110], [97], [111, 117, 49], [97, 98, 99, 100, 101, 102, 103, 104, 105, 106, 107, 108], [120, 57], [110, 97, 109, 101]]
def menuT : List (List Nat) := [[69, 118, 101, 44, 32, 65], [32, 120], [120, 32], [97, 61, 98, 43, 99], [32], [32, 32], [92], [34, 113, 34], [97, 92, 32], [112, 108, 97, 105, 110], [97, 32, 32, 98], [126], [44], [55]] ++ [List.replicate 100 120, [32, 35, 40, 97, 41, 42, 59, 32]]
def okW : List Nat → Bool
  | [] => false
  | c :: w => decide (c ∈ lets) && w.all (fun x => decide (x ∈ lets) || decide (x ∈ digs)) && decide (w.length < 12)
def okT (t : List Nat) : Bool := !t.isEmpty && decide (t.length ≤ 100) && t.all (fun x => decide (32 ≤ x) && decide (x ≤ 126))
theorem menu_vp {w t : List Nat} (hw : okW w = true) (ht : okT t = true) : VP (w, t) := by
  cases w with
  | nil => cases hw
  | cons c w =>
    simp only [okW, Bool.and_eq_true, decide_eq_true_eq, List.all_eq_true, Bool.or_eq_true] at hw
    simp only [okT, Bool.and_eq_true, decide_eq_true_eq, List.all_eq_true, Bool.not_eq_true', List.isEmpty_eq_false_iff] at ht
    exact ⟨⟨c, w, rfl, hw.1.1, hw.1.2, hw.2⟩, ht.1.1, ht.1.2, ht.2⟩
theorem menuW_ok : ∀ w ∈ menuW, okW w = true := by decide
theorem menuT_ok : ∀ t ∈ menuT, okT t = true := by decide +kernel
theorem add_lst {a b : List D} (h : a.length + b.length ≤ lim) : binD .Add (.lst a) (.lst b) = some (.lst (a ++ b)) := by
  show (if _ then _ else _) = _
  rw [if_pos h]
/-- _law_name_pair -/
theorem npair_ok {n : Nat} : W (call (n + 3) 20 [.dice]) (fun d => ∃ p, VP p ∧ d = pairD p) := by
  refine W_call (d := d20) rfl (by decide) rfl ?_
  show W (exSs con _ [] b20 [some .dice, none, none]) _
  unfold b20
  have e1 : evEs con (callD con fs 28 (n + 2)) (.cons (.v 0) (.cons (.lst (.cons (.c (.str [99, 110])) (.cons (.c (.str [97])) (.cons (.c (.str [111, 117, 49])) (.cons (.c (.str [97, 98, 99, 100, 101, 102, 103, 104, 105, 106, 107, 108])) (.cons (.c (.str [120, 57])) (.cons (.c (.str [110, 97, 109, 101])) .nil))))))) .nil)) [some .dice, none, none] = M.ret [.dice, .lst (menuW.map .str)] := rfl
  refine W_set (W_evM (W_cal e1 ?_))
  refine (oneof_ok (n := n) (by decide) (by decide)).mono fun d hd => ?_
  obtain ⟨w, hw, rfl⟩ := List.mem_map.mp hd
  refine W_set (W_evM (W_lst ?_))
  have e2 : evEs con (callD con fs 28 (n + 2)) (.cons (.c (.str [69, 118, 101, 44, 32, 65])) (.cons (.c (.str [32, 120])) (.cons (.c (.str [120, 32])) (.cons (.c (.str [97, 61, 98, 43, 99])) (.cons (.c (.str [32])) (.cons (.c (.str [32, 32])) (.cons (.c (.str [92])) (.cons (.c (.str [34, 113, 34])) (.cons (.c (.str [97, 92, 32])) (.cons (.c (.str [112, 108, 97, 105, 110])) (.cons (.c (.str [97, 32, 32, 98])) (.cons (.c (.str [126])) (.cons (.c (.str [44])) (.cons (.c (.str [55])) .nil)))))))))))))) [some .dice, some (.str w), none] = M.ret ([[69, 118, 101, 44, 32, 65], [32, 120], [120, 32], [97, 61, 98, 43, 99], [32], [32, 32], [92], [34, 113, 34], [97, 92, 32], [112, 108, 97, 105, 110], [97, 32, 32, 98], [126], [44], [55]].map .str) := rfl
  show W (evEs con (callD con fs 28 (n + 2)) _ [some .dice, some (.str w), none]) _
  rw [e2]
  refine W.ret ⟨by decide, ?_⟩
  have m1 : binD .Mult (.str [120]) (.int 100) = some (.str (List.replicate 100 120)) := (mul_str (a := [120]) (j := 100) (by decide) (by decide)).trans (by rfl)
  have a1 : binD .Add (.lst ([[69, 118, 101, 44, 32, 65], [32, 120], [120, 32], [97, 61, 98, 43, 99], [32], [32, 32], [92], [34, 113, 34], [97, 92, 32], [112, 108, 97, 105, 110], [97, 32, 32, 98], [126], [44], [55]].map .str)) (.lst [.str (List.replicate 100 120), .str [32, 35, 40, 97, 41, 42, 59, 32]]) = some (.lst (menuT.map .str)) := by
    exact Eq.trans (add_lst (by decide)) rfl
  refine W_set (W_evM (W_bin (W_v rfl (W_lst (W_es (W_bin (W_c (W_c ⟨_, m1, W_es1 (W_c ⟨by decide, _, a1, ?_⟩)⟩))))))))
  refine W_rets (W_tup (W_es (W_v rfl (W_es1 (W_callX (W_es (W_v rfl (W_es1 (W_v rfl ?_)))))))))
  refine (oneof_ok (n := n) (xs := menuT.map .str) (by decide) (by decide)).mono fun d hd => ?_
  obtain ⟨t, ht, rfl⟩ := List.mem_map.mp hd
  exact ⟨(show (2 : Nat) ≤ lim by decide), (w, t), menu_vp (menuW_ok w hw) (menuT_ok t ht), rfl⟩
/-- _law_some_name -/
theorem sname_ok {n k : Nat} (hk : k ≤ 8) : W (call (n + 4) 21 [.dice, .int (k : Nat)]) (fun d => ∃ ps : List Pr, (∀ p ∈ ps, VP p) ∧ ps.length ≤ 8 ∧ d = nameD ps) := by
  refine W_call (d := d21) rfl (by decide) rfl ?_
  show W (exSs con _ [] b21 [some .dice, some (.int (k : Nat)), none]) _
  unfold b21
  refine W_rets (W_bi (W_es1 (W_compR (fun _ d => ∃ p, VP p ∧ d = pairD p) (W_rng (W_callX (W_es (W_v rfl (W_es1 (W_bin (W_v rfl (W_c ⟨_, add_int, ?_⟩)))))))))))
  refine (W_roll (r := 28) (n := n + 2) (k := (k : Int) + 1) (by omega) (by omega)).mono fun d hd => ?_
  obtain ⟨j, hj, rfl⟩ := hd
  have hr : (rangeD 0 j).length = j := by simp [rangeD]
  refine ⟨j, rfl, by omega, Nat.le_trans (show (rangeD 0 j).length ≤ 8 by rw [hr]; omega) (by decide), fun x hx => ?_, fun ys a => ?_⟩
  · exact ⟨_, rfl, W_callX (W_es1 (W_v rfl npair_ok))⟩
  · have : ∃ ps : List Pr, (∀ p ∈ ps, VP p) ∧ ys = ps.map pairD := by
      clear hr
      generalize rangeD 0 j = xs at a
      induction a with
      | nil => exact ⟨[], fun p hp => (by cases hp), rfl⟩
      | cons h _ ih =>
        obtain ⟨p, vp, rfl⟩ := h
        obtain ⟨ps, vps, rfl⟩ := ih
        exact ⟨p :: ps, fun q hq => by
          rcases List.mem_cons.mp hq with rfl | hq
          · exact vp
          · exact vps q hq, rfl⟩
    obtain ⟨ps, vps, rfl⟩ := this
    have hl := a.length
    rw [hr, List.length_map] at hl
    exact ⟨_, rfl, ps, vps, by omega, rfl⟩
end K04.N3

namespace K04
open PySem Ev
structure SH (k : Nat) (t : List Nat) : Prop where
  len : t.length ≤ k
  pr : ∀ x ∈ t, 32 ≤ x ∧ x ≤ 126
theorem SH.rt {k : Nat} {t : List Nat} (h : SH k t) (hk : k ≤ 4000) : RT t := ⟨⟨Nat.le_trans h.len hk⟩, h.pr⟩
theorem SH.app {j k : Nat} {a b : List Nat} (h : SH j a) (h2 : SH k b) : SH (j + k) (a ++ b) := ⟨by have := h.len; have := h2.len; simp; omega, fun x hx => (List.mem_append.mp hx).elim (h.pr x) (h2.pr x)⟩
theorem SH.up {j k : Nat} {a : List Nat} (h : SH j a) (hk : j ≤ k) : SH k a := ⟨Nat.le_trans h.len hk, h.pr⟩
theorem SH.take {k j : Nat} {t : List Nat} (h : SH k t) : SH k (t.take j) := ⟨by have := h.len; simp; omega, fun x hx => h.pr x (List.mem_of_mem_take hx)⟩
theorem SH.drop {k j : Nat} {t : List Nat} (h : SH k t) : SH k (t.drop j) := ⟨by have := h.len; simp; omega, fun x hx => h.pr x (List.mem_of_mem_drop hx)⟩
def okSH (k : Nat) (t : List Nat) : Bool := decide (t.length ≤ k) && t.all (fun x => decide (32 ≤ x) && decide (x ≤ 126))
theorem okSH_sh {k : Nat} {t : List Nat} (h : okSH k t = true) : SH k t := by
  simp only [okSH, Bool.and_eq_true, decide_eq_true_eq, List.all_eq_true] at h
  exact ⟨h.1, h.2⟩
theorem limN {n : Nat} (h : n ≤ 10000) : n ≤ lim := Nat.le_trans h (by decide)
theorem oneof_ok {n : Nat} {xs : List D} (h1 : 1 ≤ xs.length) (h2 : xs.length ≤ 1000) : W (call (n + 2) 9 [.dice, .lst xs]) (fun d => d ∈ xs) := N3.oneof_ok h1 h2
/-- one of some texts -/
theorem oneS {n k : Nat} {zs : List (List Nat)} (h1 : 1 ≤ zs.length) (h2 : zs.length ≤ 1000) (h : zs.all (okSH k) = true) : W (call (n + 2) 9 [.dice, .lst (zs.map .str)]) (fun d => ∃ t, d = .str t ∧ SH k t) :=
  (oneof_ok (by rw [List.length_map]; exact h1) (by rw [List.length_map]; exact h2)).mono fun d hd => by
    obtain ⟨t, ht, rfl⟩ := List.mem_map.mp hd
    exact ⟨t, rfl, okSH_sh (List.all_eq_true.mp h t ht)⟩
def some1 : List (List Nat) := [[97], [99, 110], [98, 55], [61], [61], [44], [32], [32, 32], [120], [89, 32, 121], [92, 44], [92, 32], [92, 61], [92, 92]]
def odd1 : List (List Nat) := [[92], [92, 120], [43], [34], [55], [97, 98, 99, 100, 101, 102, 103, 104, 105, 106, 107, 108, 109], [65], 61 :: List.replicate 100 120, List.replicate 60 32, [92, 50]]
theorem add_lst {a b : List D} (h : a.length + b.length ≤ lim) : binD .Add (.lst a) (.lst b) = some (.lst (a ++ b)) := by
  show (if _ then _ else _) = _
  rw [if_pos h]
theorem string_ok {n : Nat} : W (call (n + 3) 10 [.dice]) (fun d => ∃ t, d = .str t ∧ SH 1200 t) := by
  refine W_call (d := d10) rfl (by decide) rfl ?_
  show W (exSs con _ [] b10 [some .dice, none, none, none, none]) _
  unfold b10
  refine W_set (W_evM (W_val (d := .lst (some1.map .str)) rfl ?_))
  refine W_set (W_evM (W_val (d := .lst (odd1.map .str)) (by kernel_rfl) ?_))
  refine W_set (W_evM (W_c (W_fors (W_rng (W_callX (W_es (W_v rfl (W_es1 (W_c ?_ )))))))))
  refine (W_roll (r := 28) (k := 12) (by decide) (by decide)).mono fun d hd => ?_
  obtain ⟨j, hj, rfl⟩ := hd
  have rl : rangeD 0 j = (List.range j).map fun (i : Nat) => D.int (i : Int) := by simp [rangeD]
  refine ⟨j, rfl, by omega, ?_⟩
  rw [rl]
  refine W_forT (fun (i : Nat) => D.int (i : Int)) (List.range j) (fun p ρ => ∃ (t : List Nat) (o : Option D), SH (101 * p.length) t ∧ ρ = [some .dice, some (.lst (some1.map .str)), some (.lst (odd1.map .str)), some (.str t), o]) (fun p i r ρ e hi => ?_) (fun ρ hi => ?_) ⟨[], none, ⟨by decide, by decide⟩, rfl⟩
  · obtain ⟨t, o, ht, rfl⟩ := hi
    have hpl := congrArg List.length e
    simp at hpl
    refine ⟨_, rfl, W_set (W_evM (W_bin (W_v rfl (W_callX (W_es (W_v rfl (W_es1 (W_bin (W_bin (W_v rfl (W_v rfl ⟨_, add_lst (by decide), W_v rfl ⟨_, add_lst (by decide), ?_ ⟩⟩)))))))))))⟩
    rw [← List.map_append, ← List.map_append]
    refine (oneS (n := n) (k := 101) (by decide) (by decide) (by decide +kernel)).mono fun d hd => ?_
    obtain ⟨z, rfl, hz⟩ := hd
    have tz := ht.app hz
    have l1 := tz.len
    simp only [List.length_append] at l1
    exact ⟨_, add_str (limN (by omega)), W_nil ⟨_, _, tz.up (by simp; omega), rfl⟩⟩
  · obtain ⟨t, o, ht, rfl⟩ := hi
    rw [List.length_range] at ht
    exact W_rets (W_v rfl ⟨t, rfl, ht.up (by omega)⟩)
def longs : List (List Nat) := [List.replicate 99 120 ++ [32, 32, 32], List.replicate 98 120 ++ [32, 32, 121], List.replicate 100 120 ++ [92, 32], List.replicate 98 120 ++ [32, 121]]
def vals : List (List Nat) := [[120], [65, 110, 110, 32, 66], [92, 44], [92, 32], [92, 92], [120], [121]]
def keys : List (List Nat) := [[97], [99, 110, 32], [32, 111, 117], [97, 98, 99, 100, 101, 102, 103, 104, 105, 106, 107, 108], [120, 49]]
theorem join_sh {rows : List (List Nat)} (h : ∀ r ∈ rows, SH 120 r) : SH (121 * rows.length) (joinL [44] rows) ∧ (rows.map List.length).sum ≤ 120 * rows.length := by
  induction rows with
  | nil => exact ⟨⟨by decide, fun x hx => by cases hx⟩, by decide⟩
  | cons r rows ih =>
    have h1 := h r (by simp)
    obtain ⟨h2, h3⟩ := ih fun y hy => h y (List.mem_cons_of_mem _ hy)
    have l1 := h1.len
    refine ⟨?_, by simp only [List.map_cons, List.sum_cons, List.length_cons]; omega⟩
    cases rows with
    | nil => exact h1.up (by simp)
    | cons y ys =>
      have := (h1.app (okSH_sh (k := 1) (t := [44]) (by decide))).app h2
      have e : joinL [44] (r :: y :: ys) = r ++ [44] ++ joinL [44] (y :: ys) := by
        show r ++ ([44] ++ joinL [44] (y :: ys)) = _
        simp
      rw [e]
      exact this.up (by simp; omega)
theorem pstring_ok {n : Nat} : W (call (n + 3) 11 [.dice]) (fun d => ∃ t, d = .str t ∧ SH 1300 t) := by
  refine W_call (d := d11) rfl (by decide) rfl ?_
  show W (exSs con _ [1] b11 [some .dice, none, none, none, none]) _
  unfold b11
  refine W_newL (W_es0 ⟨by decide, ?_⟩)
  refine W_fors (W_rng (W_bin (W_c (W_callX (W_es (W_v rfl (W_es1 (W_c ?_ ))))))))
  refine (W_roll (r := 28) (k := 10) (by decide) (by decide)).mono fun d hd => ?_
  obtain ⟨j, hj, rfl⟩ := hd
  have rl : rangeD 0 (1 + j) = (List.range (1 + j)).map fun (i : Nat) => D.int (i : Int) := by simp [rangeD]
  refine ⟨_, add_int, 1 + j, by simp, by omega, ?_⟩
  rw [rl]
  refine W_forT (fun (i : Nat) => D.int (i : Int)) (List.range (1 + j)) (fun p ρ => ∃ (rows : List (List Nat)) (o2 o3 o4 : Option D), rows.length = p.length ∧ (∀ r ∈ rows, SH 120 r) ∧ ρ = [some .dice, some (.lst (rows.map .str)), o2, o3, o4]) (fun p i r ρ e hi => ?_) (fun ρ hi => ?_) ⟨[], none, none, none, rfl, (fun r hr => by cases hr), rfl⟩
  · obtain ⟨rows, o2, o3, o4, hrl, hr, rfl⟩ := hi
    have hpl := congrArg List.length e
    simp at hpl
    refine ⟨_, rfl, W_set (W_evM (W_callX (W_es (W_v rfl (W_es1 (W_val (d := .lst (longs.map .str)) (by kernel_rfl) ?_ ))))))⟩
    refine (oneS (n := n) (k := 102) (by decide) (by decide) (by decide +kernel)).mono fun d hd => ?_
    obtain ⟨lg, rfl, hlg⟩ := hd
    refine W_set (W_evM (W_callX (W_es (W_v rfl (W_es1 (W_val (d := .lst ((vals ++ [lg]).map .str)) rfl ?_ ))))))
    refine (oneof_ok (n := n) (xs := (vals ++ [lg]).map .str) (by simp [vals]) (by simp [vals])).mono fun d hd => ?_
    obtain ⟨v, hv, rfl⟩ := List.mem_map.mp hd
    have hv2 : SH 102 v := by
      rcases List.mem_append.mp hv with h | h
      · exact okSH_sh (List.all_eq_true.mp (show vals.all (okSH 102) = true by decide) v h)
      · cases List.mem_singleton.mp h
        exact hlg
    refine W_app (W_bin (W_bin (W_callX (W_es (W_v rfl (W_es1 (W_val (d := .lst (keys.map .str)) rfl ?_ )))))))
    refine (oneS (n := n) (k := 12) (by decide) (by decide) (by decide +kernel)).mono fun d hd => ?_
    obtain ⟨ky, rfl, hky⟩ := hd
    have h1 := hky.app (okSH_sh (k := 1) (t := [61]) (by decide))
    have h2 := h1.app hv2
    have l1 := h1.len
    have l2 := h2.len
    simp only [List.length_append] at l1 l2
    refine W_c ⟨_, add_str (limN (Nat.le_trans l1 (by decide))), W_v rfl ⟨_, add_str (limN (by simp only [List.length_append]; omega)), _, rfl, by rw [List.length_map]; exact Nat.lt_of_lt_of_le (show rows.length < 100 by omega) (by decide), W_nil ⟨rows ++ [ky ++ [61] ++ v], _, _, _, by simp [hrl], (fun r' hr' => ?_), by rw [List.map_append]; rfl⟩⟩⟩
    rcases List.mem_append.mp hr' with h | h
    · exact hr r' h
    · cases List.mem_singleton.mp h
      exact h2.up (by omega)
  · obtain ⟨rows, o2, o3, o4, hrl, hr, rfl⟩ := hi
    rw [List.length_range] at hrl
    obtain ⟨h1, h2⟩ := join_sh hr
    refine W_rets (W_mt (W_c (W_es1 (W_v rfl ⟨_, join_str (limN (show (rows.map List.length).sum + rows.length * [44].length ≤ 10000 by simp; omega)), _, rfl, h1.up (by omega)⟩))))
theorem cut_len {s : List Nat} {k : Nat} (hl : s.length ≤ lim) : slD (.str s) none (some (k : Nat)) = some (.str (s.take k)) := by
  show (if _ then _ else _) = _
  rw [if_pos hl]
  unfold cutL
  rw [HT.sIx_none, HT.sIx_nat]
  congr 2
  simp
theorem cut_from {s : List Nat} {k : Nat} (hl : s.length ≤ lim) : slD (.str s) (some (k : Nat)) none = some (.str (s.drop k)) := by
  show (if _ then _ else _) = _
  rw [if_pos hl]
  unfold cutL
  rw [HT.sIx_none, HT.sIx_nat]
  congr 2
  by_cases h : k ≤ s.length
  · rw [Nat.min_eq_left h, List.take_of_length_le (by simp)]
  · rw [Nat.min_eq_right (by omega), List.drop_length, List.drop_of_length_le (by omega)]
    simp
def sgns : List (List Nat) := [[44], [61], [32], [92], [43], [34], [97], [57], [90], [40]]
theorem spoilt_ok {n : Nat} {t : List Nat} (h : SH 1900 t) : W (call (n + 3) 22 [.dice, .str t]) (fun d => ∃ z, d = .str z ∧ SH 3801 z) := by
  have tl := h.len
  have hl := limN (show t.length ≤ 10000 by omega)
  refine W_call (d := d22) rfl (by decide) rfl ?_
  show W (exSs con _ [] b22 [some .dice, some (.str t), none, none, none]) _
  unfold b22
  refine W_par (W_evMs (W_es (W_callX (W_es (W_v rfl (W_es1 (W_bin (W_bi (W_es1 (W_v rfl ⟨_, len_str hl, W_c ⟨_, add_int, ?_ ⟩⟩))))))))))
  refine (W_roll (r := 28) (k := (t.length : Int) + 1) (by omega) (by omega)).mono fun d hd => ?_
  obtain ⟨j, hj, rfl⟩ := hd
  refine W_es1 (W_callX (W_es (W_v rfl (W_es1 (W_val (d := .lst (sgns.map .str)) rfl ?_ )))))
  refine (oneS (n := n) (k := 1) (by decide) (by decide) (by decide +kernel)).mono fun d hd => ?_
  obtain ⟨c, rfl, hc⟩ := hd
  have cl := hc.len
  have e1 : ((j : Int) + 1) = ((j + 1 : Nat) : Int) := by omega
  have cf : slD (.str t) (some ((j : Int) + 1)) none = some (.str (t.drop (j + 1))) := by rw [e1]; exact cut_from hl
  have p2 := (h.take (j := j)).app hc
  have p3 := p2.app (h.drop (j := j))
  have p4 := p2.app (h.drop (j := j + 1))
  have p5 := (h.take (j := j)).app (h.drop (j := j + 1))
  have l2 := p2.len
  have l3 := p3.len
  have l4 := p4.len
  have l5 := p5.len
  simp only [List.length_append] at l2 l3 l4 l5
  have a2 : binD .Add (.str (t.take j)) (.str c) = some (.str (t.take j ++ c)) := add_str (limN (by omega))
  have a3 : binD .Add (.str (t.take j ++ c)) (.str (t.drop j)) = some (.str (t.take j ++ c ++ t.drop j)) := add_str (limN (by rw [List.length_append]; omega))
  have a4 : binD .Add (.str (t.take j ++ c)) (.str (t.drop (j + 1))) = some (.str (t.take j ++ c ++ t.drop (j + 1))) := add_str (limN (by rw [List.length_append]; omega))
  have a5 : binD .Add (.str (t.take j)) (.str (t.drop (j + 1))) = some (.str (t.take j ++ t.drop (j + 1))) := add_str (limN (by omega))
  have st : ∀ {F : Nat → List D → M D} {P : D → Prop} {o4 : Option D}, P (.str (t.take j)) → W (evE con F (.sl (.v 1) .none (.some (.v 2))) [some .dice, some (.str t), some (.int (j : Nat)), some (.str c), o4]) P := fun hp => W_sl (W_v rfl (W_co0 (W_co (W_v rfl ⟨_, rfl, _, cut_len hl, hp⟩))))
  have sd : ∀ {F : Nat → List D → M D} {P : D → Prop} {o4 : Option D}, P (.str (t.drop j)) → W (evE con F (.sl (.v 1) (.some (.v 2)) .none) [some .dice, some (.str t), some (.int (j : Nat)), some (.str c), o4]) P := fun hp => W_sl (W_v rfl (W_co (W_v rfl ⟨_, rfl, W_co0 ⟨_, cut_from hl, hp⟩⟩)))
  have sd1 : ∀ {F : Nat → List D → M D} {P : D → Prop} {o4 : Option D}, P (.str (t.drop (j + 1))) → W (evE con F (.sl (.v 1) (.some (.bin .Add (.v 2) (.c (.int 1)))) .none) [some .dice, some (.str t), some (.int (j : Nat)), some (.str c), o4]) P := fun hp => W_sl (W_v rfl (W_co (W_bin (W_v rfl (W_c ⟨_, add_int, _, rfl, W_co0 ⟨_, cf, hp⟩⟩)))))
  refine ⟨_, rfl, W_set (W_evM (W_lst (W_es (st (W_es (W_bin (W_bin (st (W_v rfl ⟨_, a2, sd ⟨_, a3, W_es (W_bin (W_bin (st (W_v rfl ⟨_, a2, sd1 ⟨_, a4, W_es1 (W_bin (st (sd1 ⟨_, a5, (show 4 ≤ lim by decide), ?_ ⟩)))⟩⟩))))⟩⟩)))))))))⟩
  refine W_rets (W_callX (W_es (W_v rfl (W_es1 (W_v rfl ((oneof_ok (n := n) (xs := [.str (t.take j), .str (t.take j ++ c ++ t.drop j), .str (t.take j ++ c ++ t.drop (j + 1)), .str (t.take j ++ t.drop (j + 1))]) (show 1 ≤ 4 by decide) (show 4 ≤ 1000 by decide)).mono fun d hd => ?_ ))))))
  simp only [List.mem_cons, List.not_mem_nil, or_false] at hd
  rcases hd with rfl | rfl | rfl | rfl
  · exact ⟨_, rfl, h.take.up (by decide)⟩
  · exact ⟨_, rfl, p3.up (by decide)⟩
  · exact ⟨_, rfl, p4.up (by decide)⟩
  · exact ⟨_, rfl, p5.up (by decide)⟩
end K04

namespace K04
open PySem Ev
theorem text_sh {ps : List N3.Pr} (v : ∀ p ∈ ps, N3.VP p) (h8 : ps.length ≤ 8) : SH 1900 (N3.textOf ps) := by
  have a := N3.rows_of v
  have h1 := N3.join_len a
  have h2 := N3.join_print a
  refine ⟨?_, h2⟩
  rw [List.length_map] at h1
  exact Nat.le_trans h1 (by omega)
theorem ok_readD {s : List Nat} : okD 60 (readD s) = true := by
  unfold readD
  split
  · rfl
  · split
    · rename_i ps _
      show okDs 59 (ps.map pairD) = true
      refine okDs_all fun x hx => ?_
      obtain ⟨p, _, rfl⟩ := List.mem_map.mp hx
      rfl
    · rfl
def tailS : List (List Nat) := [[97, 61, 98, 44], [97, 61, 98, 61, 99], [97, 32, 61, 32], [97, 98, 99, 100, 101, 102, 103, 104, 105, 106, 107, 108, 109, 61, 120], [97, 61] ++ List.replicate 101 120, [97, 61, 120] ++ List.replicate 99 32 ++ [121], [97, 61, 92, 55, 102], [65, 61, 98]]
def nine : List Nat := joinL [44] (List.replicate 9 [97, 61, 98])
theorem tail_all : (tailS ++ [nine]).all (okSH 4000) = true := by decide +kernel
theorem tail_vals : (tailS ++ [nine]).map readD = [.int 4, .int 3, .int 4, .int 12, .int 102, .int 102, .int 3, .int 0, .int 31] := by kernel_rfl
theorem plain : Plain where
  body := fun i a s => by
    have h : W (exSs con calls lawOwn lawB (lawEnv 8 1 2 a i)) (fun fl => ∃ o3 o4 o5 o6 o7, fl = .nx [some (.opq a), some (.int (i : Nat)), some .dice, o3, o4, o5, o6, o7]) := by
      unfold lawB
      refine W_fors (W_rng (W_c ⟨4, rfl, by decide, ?_⟩))
      refine W_for (rangeD 0 4) (fun _ ρ => ∃ o3 o4 o5 o6 o7, ρ = [some (.opq a), some (.int (i : Nat)), some .dice, o3, o4, o5, o6, o7]) (fun j x ρ hx hi => ?_) (fun ρ hi => ?_) 0 _ _ rfl (Nat.zero_le _) ⟨none, none, none, none, none, rfl⟩
      · obtain ⟨o3, o4, o5, o6, o7, rfl⟩ := hi
        refine ⟨_, rfl, W_set (W_evM (W_lst (W_es (W_callX (W_es1 (W_v rfl ((string_ok (n := 4)).mono fun d hd => ?_ )))))))⟩
        obtain ⟨t1, rfl, h1⟩ := hd
        refine W_es (W_callX (W_es1 (W_v rfl ((pstring_ok (n := 4)).mono fun d hd => ?_ ))))
        obtain ⟨t2, rfl, h2⟩ := hd
        refine W_es1 (W_callX (W_es1 (W_callX (W_es (W_v rfl (W_es1 (W_c ((N3.sname_ok (n := 3) (k := 4) (by decide)).mono fun d hd => ?_ ))))))))
        obtain ⟨ps, v, h8, rfl⟩ := hd
        refine (N3.ntext_ok (n := 3) v h8).to ⟨(show 3 ≤ lim by decide), ?_⟩
        have h3 := text_sh v h8
        generalize N3.textOf ps = t3 at h3
        refine W_set (W_evM (W_bin (W_v rfl (W_lst (W_es (W_callX (W_es (W_v rfl (W_es1 (W_ix (W_v rfl (W_c ⟨_, rfl, (spoilt_ok (n := 4) (h2.up (by decide))).mono fun d hd => ?_ ⟩))))))))))))
        obtain ⟨t4, rfl, h4⟩ := hd
        refine W_es1 (W_callX (W_es (W_v rfl (W_es1 (W_ix (W_v rfl (W_c ⟨_, rfl, (spoilt_ok (n := 4) h3).mono fun d hd => ?_ ⟩)))))))
        obtain ⟨t5, rfl, h5⟩ := hd
        refine ⟨(show 2 ≤ lim by decide), _, add_lst (show 3 + 2 ≤ lim by decide), ?_⟩
        have hts : ∀ t ∈ [t1, t2, t3, t4, t5], RT t := by
          intro t ht
          simp only [List.mem_cons, List.not_mem_nil, or_false] at ht
          rcases ht with rfl | rfl | rfl | rfl | rfl
          · exact h1.rt (by decide)
          · exact h2.rt (by decide)
          · exact h3.rt (by decide)
          · exact h4.rt (by decide)
          · exact h5.rt (by decide)
        show W (exSs con _ [] _ [some (.opq a), some (.int (i : Nat)), some .dice, some x, some (.lst ([t1, t2, t3, t4, t5].map .str)), o5, o6, o7]) _
        have hln : ([t1, t2, t3, t4, t5] : List (List Nat)).length ≤ lim := (show 5 ≤ lim by decide)
        generalize ([t1, t2, t3, t4, t5] : List (List Nat)) = ts at hts hln
        refine W_skip (W_cmp (W_compTF D.str ts (fun _ => false) D.str (W_seq (W_v rfl ⟨_, rfl, rfl⟩)) hln (fun t ht => ⟨_, rfl, W_cmp (W_callX (W_es1 (W_v rfl ((told_ok (n := 1) (hts t ht)).to (W_callX (W_es1 (W_v rfl ((lread_ok (n := 4) (hts t ht).tl).to ⟨_, ne_self ok_readD, rfl⟩)))))))), fun z => by cases z⟩) ?_)) (W_nil ⟨_, _, _, _, _, rfl⟩)
        have e : (ts.filter fun _ => false).map D.str = [] := by simp
        rw [e]
        exact W_lst (W_es0 ⟨by decide, _, rfl, rfl⟩)
      · obtain ⟨o3, o4, o5, o6, o7, rfl⟩ := hi
        exact W_nil ⟨_, _, _, _, _, rfl⟩
    obtain ⟨fl, s', e, o3, o4, o5, o6, o7, rfl⟩ := h s
    exact ⟨_, s', e, Nat.le_refl 8, by decide, rfl⟩
  tail := fun s => by
    have h : W (exSs con calls lawOwn lawT (List.replicate 8 none)) (fun fl => fl = .rt (.bl true)) := by
      unfold lawT
      refine W_set (W_evM (W_val (d := .lst (tailS.map .str)) (by kernel_rfl) ?_))
      refine W_set (W_evM (W_compTG D.str (tailS ++ [nine]) readD (W_seq (W_bin (W_v rfl (W_val (d := .lst ([nine].map .str)) (by kernel_rfl) ⟨_, add_lst (by decide), _, rfl, by rw [List.map_append]⟩)))) (by decide) (fun t ht => ⟨_, rfl, W_callX (W_es1 (W_v rfl (told_ok (n := 1) ((okSH_sh (List.all_eq_true.mp tail_all t ht)).rt (by decide)))))⟩) ?_))
      rw [tail_vals]
      exact W_rets (W_val (d := .bl true) (by kernel_rfl) rfl)
    obtain ⟨fl, s', e, rfl⟩ := h s
    exact ⟨s', e⟩
end K04

theorem PySem.Challenge.cw_bailiwick_k04_whole_readers_of_names_holds : PySem.Challenge.rw_bailiwick_k04_whole_readers_of_names.Holds := by
  exact K04.holds K04.plain
