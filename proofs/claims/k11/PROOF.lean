import PyProof.Rows.All
import Wide.All
import OpenK.AllK
import Wide.FinOn
import PySem.Challenge.RW_mixplay_k11_a_mixing
import HandS.ForMost
import HandS.ForExc
import HandS.Wide
import HandS.IsInst
import HandS.TupAny
import HandS.Conv
import HandS.TupLen
import HandS.CallSlots
import HandS.ExcInit
import HandS.ExcIs
import HandS.Deep
import KE.GoesMore
import HandS.ExcField
import HandS.TryOnly
import KE.KExcIs
import HandS.Rev
import HandS.RevTup
import PyProof.ListNew
import HandS.More
set_option Elab.async false
set_option linter.all false
set_option maxRecDepth 100000
set_option maxHeartbeats 4000000
/-! Trees: data without a heap, a small language over them, its meaning as plain functions. -/
namespace Tr
open PySem

/-- a data tree -/
inductive D where
  | non
  | bl (b : Bool)
  | int (i : Int)
  | str (s : Str)
  | tup (xs : List D)
  | lst (xs : List D)
  | dic (kvs : List (List Int × D))
  | scr (xs : List Int)
  | obj (fs : List (Str × D))
  | exc (c : Nat) (fs : List (Str × Int))

mutual
/-- nothing in it can ever be changed -/
def D.pure : D → Bool
  | .tup xs => D.pureL xs
  | .lst _ => false
  | .dic _ => false
  | .obj _ => false
  | _ => true
def D.pureL : List D → Bool
  | [] => true
  | d :: r => D.pure d && D.pureL r
end

mutual
/-- as the library's data -/
def D.py : D → Option PyData
  | .non => some .none
  | .bl b => some (.bool b)
  | .int i => some (.int i)
  | .str s => some (.str s)
  | .tup xs => (D.pyL xs).map .tuple
  | .lst xs => (D.pyL xs).map .list
  | _ => none
def D.pyL : List D → Option (List PyData)
  | [] => some []
  | d :: r => match D.py d, D.pyL r with | some x, some xs => some (x :: xs) | _, _ => none
end

/-- what comes of a piece: a value, an exception (its class's number, its fields), or nothing that is known -/
inductive Res (α : Type) where
  | ok (a : α)
  | exc (c : Nat) (fs : List (Str × Int))
  | stuck
namespace Res
def bind {α β : Type} : Res α → (α → Res β) → Res β
  | .ok a, f => f a
  | .exc c fs, _ => .exc c fs
  | .stuck, _ => .stuck
@[simp] theorem ok_bind {α β : Type} (a : α) (f : α → Res β) : (Res.ok a).bind f = f a := rfl
@[simp] theorem exc_bind {α β : Type} (c : Nat) (fs : List (Str × Int)) (f : α → Res β) : (Res.exc c fs : Res α).bind f = .exc c fs := rfl
@[simp] theorem stuck_bind {α β : Type} (f : α → Res β) : (Res.stuck : Res α).bind f = .stuck := rfl
/-- in a comprehension nothing is raised -/
def calm {α : Type} : Res α → Res α
  | .ok a => .ok a
  | _ => .stuck
@[simp] theorem calm_ok {α : Type} (a : α) : (Res.ok a).calm = .ok a := rfl
end Res

abbrev Env := List (Option D)
abbrev Fn := List D → Res D
abbrev Gam := Nat → Fn

/-! ### operators -/
inductive AOp where | add | sub | mul | fdiv | mod | pow
inductive COp where | lt | le | gt | ge
def mulFits (i j : Int) : Bool := decide (i.natAbs.log2 < 63) || decide (j.natAbs.log2 < 63) || decide (i.natAbs.log2 + j.natAbs.log2 < 1000000)
def AOp.int : AOp → Int → Int → Res D
  | .add, i, j => .ok (.int (i + j))
  | .sub, i, j => .ok (.int (i - j))
  | .mul, i, j => if mulFits i j = true then .ok (.int (i * j)) else .stuck
  | .fdiv, i, j => if j ≠ 0 ∧ j.natAbs.log2 < 9000 then .ok (.int (i.fdiv j)) else .stuck
  | .mod, i, j => if j ≠ 0 then .ok (.int (i.fmod j)) else .stuck
  | .pow, i, j => if 0 ≤ j ∧ j ≤ 1000000 ∧ i.natAbs < 2 ^ 64 then .ok (.int (i ^ j.toNat)) else .stuck
def AOp.sem (op : AOp) : D → D → Res D
  | .int i, .int j => op.int i j
  | _, _ => .stuck
def COp.int : COp → Int → Int → Bool
  | .lt, i, j => decide (i < j)
  | .le, i, j => decide (i ≤ j)
  | .gt, i, j => decide (j < i)
  | .ge, i, j => decide (j ≤ i)
def COp.sem (op : COp) : D → D → Res D
  | .int i, .int j => .ok (.bl (op.int i j))
  | _, _ => .stuck
/-- == of two scalars of one kind (None beside anything) -/
def eqS : D → D → Res D
  | .int i, .int j => .ok (.bl (decide (i = j)))
  | .bl i, .bl j => .ok (.bl (decide (i = j)))
  | .str i, .str j => .ok (.bl (decide (i = j)))
  | _, _ => .stuck
def eqvD (x y : D) : Res Bool :=
  match x.py, y.py with
  | some d, some e => if SeqAt.shaped d = true ∧ SeqAt.shaped e = true then .ok (PyData.eqv d e) else .stuck
  | _, _ => .stuck
def isNonD : D → Bool
  | .non => true
  | _ => false
/-- is True, is False: of a truth or None -/
def isBD : D → D → Res D
  | .bl i, .bl j => .ok (.bl (decide (i = j)))
  | .non, .bl _ => .ok (.bl false)
  | _, _ => .stuck
/-- the place of an index -/
def place (n : Nat) (i : Int) : Option Nat := L2.ixN n i
def ixD : D → D → Res D
  | .lst xs, .int i => match L2.atI xs i with | some d => .ok d | none => .stuck
  | .tup xs, .int i => match L2.atI xs i with | some d => .ok d | none => .stuck
  | .scr xs, .int i => match L2.atI xs i with | some d => .ok (.int d) | none => .stuck
  | _, _ => .stuck
def cutD {α : Type} (xs : List α) (lo hi : Option Int) : List α := (xs.drop (HT.sIx xs.length 0 lo)).take (HT.sIx xs.length xs.length hi - HT.sIx xs.length 0 lo)
def slLD : D → Option Int → Option Int → Res D
  | .lst xs, lo, hi => .ok (.lst (cutD xs lo hi))
  | .scr xs, lo, hi => .ok (.lst (cutD (xs.map D.int) lo hi))
  | _, _, _ => .stuck
def slTD : D → Option Int → Option Int → Res D
  | .tup xs, lo, hi => .ok (.tup (cutD xs lo hi))
  | _, _, _ => .stuck
/-- the largest length that is written here -/
def line : Nat := 1000000
def catD : D → D → Res D
  | .lst xs, .lst ys => if xs.length + ys.length ≤ line then .ok (.lst (xs ++ ys)) else .stuck
  | _, _ => .stuck
def catTD : D → D → Res D
  | .tup xs, .tup ys => if xs.length + ys.length ≤ line then .ok (.tup (xs ++ ys)) else .stuck
  | _, _ => .stuck
def repD : D → D → Res D
  | .lst xs, .int k => if -(2 ^ 63) ≤ k ∧ k < 2 ^ 63 ∧ xs.length * k.toNat ≤ line then .ok (.lst (List.replicate k.toNat xs).flatten) else .stuck
  | _, _ => .stuck
def lenD : D → Res D
  | .lst xs => .ok (.int xs.length)
  | .tup xs => .ok (.int xs.length)
  | .scr xs => .ok (.int xs.length)
  | .dic kvs => .ok (.int kvs.length)
  | _ => .stuck
def lstOfD : D → Res D
  | .lst xs => .ok (.lst xs)
  | .tup xs => .ok (.lst xs)
  | .scr xs => .ok (.lst (xs.map D.int))
  | _ => .stuck
def tupOfD : D → Res D
  | .lst xs => .ok (.tup xs)
  | .tup xs => .ok (.tup xs)
  | _ => .stuck
def absD : D → Res D
  | .int i => .ok (.int (if i < 0 then -i else i))
  | _ => .stuck
def negD : D → Res D
  | .int i => .ok (.int (-i))
  | _ => .stuck
def max2D : D → D → Res D
  | .int i, .int j => .ok (.int (if j > i then j else i))
  | _, _ => .stuck
def min2D : D → D → Res D
  | .int i, .int j => .ok (.int (if j < i then j else i))
  | _, _ => .stuck
/-- the ints of a list -/
def intsOf : List D → Option (List Int)
  | [] => some []
  | .int i :: r => (intsOf r).map (i :: ·)
  | _ :: _ => none
def sumD : D → Res D
  | .lst xs => match intsOf xs with | some ns => .ok (.int ns.sum) | none => .stuck
  | _ => .stuck
/-- the greatest of a list of ints -/
def maxOf : List Int → Option Int
  | [] => none
  | x :: r => match maxOf r with | none => some x | some y => some (if x < y then y else x)
def maxLD : D → Res D
  | .lst xs => match intsOf xs with | some ns => (match maxOf ns with | some m => .ok (.int m) | none => .stuck) | none => .stuck
  | _ => .stuck
/-- the built-in types that are asked for -/
inductive Ty where | int | bool | tuple | list | dict | str
def Ty.name : Ty → String
  | .int => "int" | .bool => "bool" | .tuple => "tuple" | .list => "list" | .dict => "dict" | .str => "str"
def isTy : Ty → D → Res D
  | .int, .int _ => .ok (.bl true)
  | .int, .bl _ => .ok (.bl true)
  | .bool, .bl _ => .ok (.bl true)
  | .tuple, .tup _ => .ok (.bl true)
  | .list, .lst _ => .ok (.bl true)
  | .dict, .dic _ => .ok (.bl true)
  | .str, .str _ => .ok (.bl true)
  | _, .exc _ _ => .stuck
  | _, .obj _ => .stuck
  | _, .scr _ => .stuck
  | _, _ => .ok (.bl false)
def rangeD (lo hi : Int) : List D := (List.range (hi - lo).toNat).map fun i => D.int (lo + (i : Nat))
def small (i : Int) : Bool := decide (-(2 ^ 62) ≤ i) && decide (i < 2 ^ 62)
/-- x in a list or tuple of ints and texts -/
def flatD : D → Bool
  | .int _ => true
  | .str _ => true
  | _ => false
def eqF : D → D → Bool
  | .int i, .int j => i == j
  | .str i, .str j => i == j
  | _, _ => false
def inFlat : D → List D → Bool
  | x, ys => ys.any fun y => eqF y x
def inDeep (x : D) (ys : List D) : Res Bool :=
  match x.py, D.pyL ys with
  | some d, some ds => if SeqAt.shaped d = true ∧ SeqAt.shaped (.list ds) = true then .ok (ds.any fun z => PyData.eqv z d) else .stuck
  | _, _ => .stuck
def inD : D → D → Res Bool
  | x, .lst ys => if flatD x = true ∧ ys.all flatD = true then .ok (inFlat x ys) else inDeep x ys
  | x, .tup ys => if flatD x = true ∧ ys.all flatD = true then .ok (inFlat x ys) else .stuck
  | _, _ => .stuck

/-! ### dicts, changes in place -/
def keyD : D → Option (List Int)
  | .tup xs => intsOf xs
  | _ => none
def findD (kvs : List (List Int × D)) (k : List Int) : Option D := (kvs.find? fun kv => decide (kv.1 = k)).map (·.2)
def putD (kvs : List (List Int × D)) (k : List Int) (d : D) : List (List Int × D) :=
  if (kvs.any fun kv => decide (kv.1 = k)) = true then kvs.map fun kv => if kv.1 = k then (kv.1, d) else kv else kvs ++ [(k, d)]
def dgetD : D → D → Res D
  | .dic kvs, k => match keyD k with | some ks => (match findD kvs ks with | some d => .ok d | none => .stuck) | none => .stuck
  | _, _ => .stuck
def dinD : D → D → Res Bool
  | k, .dic kvs => match keyD k with | some ks => .ok (findD kvs ks).isSome | none => .stuck
  | _, _ => .stuck

/-- nothing that it holds can change -/
def pinD : D → Res D
  | .lst xs => if D.pureL xs = true then .ok (.lst xs) else .stuck
  | .tup xs => if D.pureL xs = true then .ok (.tup xs) else .stuck
  | .scr xs => .ok (.scr xs)
  | _ => .stuck

/-! ### own exceptions, own objects -/
/-- isinstance(x, (C, ..)), own exception classes by their numbers -/
def isXD (cs : List Nat) : D → Res D
  | .exc c _ => .ok (.bl (cs.contains c))
  | .non => .ok (.bl false)
  | _ => .stuck
/-- isinstance(x, ValueError) -/
def isVED : D → Res D
  | .exc _ _ => .ok (.bl true)
  | .non => .ok (.bl false)
  | _ => .stuck
def xfD (f : Str) : D → Res D
  | .exc _ fs => match fs.lookup f with | some i => .ok (.int i) | none => .stuck
  | _ => .stuck
def fldD (f : Str) : D → Res D
  | .obj fs => match fs.lookup f with | some d => .ok d | none => .stuck
  | _ => .stuck
/-- an own object without this field -/
def noFld (m : Str) : D → Bool
  | .obj fs => (fs.lookup m).isNone
  | _ => false
/-- the fields of an exception that is made: ints -/
def mkFs : List Str → List D → Option (List (Str × Int))
  | [], [] => some []
  | f :: fs, .int i :: ds => (mkFs fs ds).map ((f, i) :: ·)
  | _, _ => none
def isLst : D → Bool
  | .lst _ => true
  | _ => false
/-- xs.index(i) of ints -/
def idxD : D → D → Res D
  | .lst xs, .int i => match intsOf xs with | some ns => if ns.contains i = true then .ok (.int (ns.idxOf i)) else .stuck | none => .stuck
  | _, _ => .stuck
def revD : D → Res D
  | .lst xs => .ok (.lst xs.reverse)
  | _ => .stuck

/-! ### the language -/
mutual
inductive E where
  | int (i : Int)
  | bl (b : Bool)
  | non
  | str (s : Str)
  | v (i : Nat)
  | pur (e : E)
  | pin (e : E)
  | ar (op : AOp) (a b : E)
  | neg (a : E)
  | cmp (op : COp) (a b : E)
  | eq (a b : E)
  | ne (a b : E)
  | eqv (a b : E)
  | nev (a b : E)
  | isN (a : E)
  | notN (a : E)
  | isB (a b : E)
  | inn (a b : E)
  | notin (a b : E)
  | not (a : E)
  | and (a b : E)
  | or (a b : E)
  | ite (c a b : E)
  | ix (a b : E)
  | slL (a : E) (lo hi : O)
  | slT (a : E) (lo hi : O)
  | cat (a b : E)
  | catT (a b : E)
  | rep (a b : E)
  | tup (es : Es)
  | lst (es : Es)
  | call (f : Nat) (es : Es)
  | len (a : E)
  | lstOf (a : E)
  | tupOf (a : E)
  | lrng (a : E)
  | abs (a : E)
  | max2 (a b : E)
  | min2 (a b : E)
  | sum (a : E)
  | isI (t : Ty) (a : E)
  | comp (tg : List Nat) (it : It) (e : E)
  | compIf (tg : List Nat) (it : It) (c e : E)
  | dnew
  | dget (a b : E)
  | din (a b : E)
  | dnotin (a b : E)
  | maxL (a : E)
  | isX (cs : List Nat) (tp : Bool) (a : E)
  | isVE (a : E)
  | xf (f : Str) (a : E)
  | mkx (c : Nat) (fs : List Str) (es : Es)
  | fld (f : Str) (a : E)
  | meth (f : Nat) (m : Str) (a : E) (es : Es)
  | mk (f : Nat) (es : Es)
  | idx (a b : E)
  | revL (a : E)
  | gint (x : Str) (i : Int)
inductive Es where
  | nil
  | cons (e : E) (es : Es)
/-- an optional part of a slice -/
inductive O where
  | no
  | yes (e : E)
/-- what is walked -/
inductive It where
  | lst (e : E)
  | tup (e : E)
  | rng (e : E)
  | rng2 (a b : E)
  | enum (e : E)
  | zip (a b : E)
  | rev (e : E)
  | zipT (a b : E)
end

/-- the targets of a loop: one name, or the names of a tuple -/
def setTg : List Nat → D → Env → Res Env
  | [i], d, env => .ok (env.set i (some d))
  | [i, j], .tup [d, e], env => .ok ((env.set i (some d)).set j (some e))
  | _, _, _ => .stuck
def optCons (o : Option D) (ds : List D) : List D := match o with | some x => x :: ds | none => ds
/-- a comprehension -/
def compD (f : D → Res (Option D)) : List D → Res (List D)
  | [] => .ok []
  | d :: r => (f d).bind fun o => (compD f r).bind fun ds => .ok (optCons o ds)
/-- the target's names are no longer known -/
def wipeE (env : Env) : List Nat → Env
  | [] => env
  | v :: vs => (wipeE env vs).set v none
def truthR (x : Res D) : Res D := x.bind fun d => match d with | .bl b => .ok (.bl b) | _ => .stuck
@[simp] theorem truthR_ok (b : Bool) : truthR (.ok (.bl b)) = .ok (.bl b) := rfl
def andD (x : Res D) (y : Res D) : Res D := x.bind fun d => match d with | .bl true => truthR y | .bl false => .ok (.bl false) | _ => .stuck
def orD (x : Res D) (y : Res D) : Res D := x.bind fun d => match d with | .bl false => truthR y | .bl true => .ok (.bl true) | _ => .stuck
def notD : D → Res D
  | .bl b => .ok (.bl (!b))
  | _ => .stuck
def boolD {α : Type} (x : Res D) (f : Bool → Res α) : Res α := x.bind fun d => match d with | .bl b => f b | _ => .stuck
@[simp] theorem boolD_ok {α : Type} (b : Bool) (f : Bool → Res α) : boolD (.ok (.bl b)) f = f b := rfl

section
variable (G : Gam)
mutual
def E.sem : E → Env → Res D
  | .int i, _ => .ok (.int i)
  | .bl b, _ => .ok (.bl b)
  | .non, _ => .ok .non
  | .str s, _ => .ok (.str s)
  | .v i, env => match env[i]? with | some (some d) => .ok d | _ => .stuck
  | .pur e, env => (e.sem env).bind fun d => if d.pure = true then .ok d else .stuck
  | .pin e, env => (e.sem env).bind pinD
  | .ar op a b, env => (a.sem env).bind fun x => (b.sem env).bind fun y => op.sem x y
  | .neg a, env => (a.sem env).bind negD
  | .cmp op a b, env => (a.sem env).bind fun x => (b.sem env).bind fun y => op.sem x y
  | .eq a b, env => (a.sem env).bind fun x => (b.sem env).bind fun y => eqS x y
  | .ne a b, env => (a.sem env).bind fun x => (b.sem env).bind fun y => (eqS x y).bind notD
  | .eqv a b, env => (a.sem env).bind fun x => (b.sem env).bind fun y => (eqvD x y).bind fun b => .ok (.bl b)
  | .nev a b, env => (a.sem env).bind fun x => (b.sem env).bind fun y => (eqvD x y).bind fun b => .ok (.bl (!b))
  | .isN a, env => (a.sem env).bind fun x => .ok (.bl (isNonD x))
  | .notN a, env => (a.sem env).bind fun x => .ok (.bl (!isNonD x))
  | .isB a b, env => (a.sem env).bind fun x => (b.sem env).bind fun y => isBD x y
  | .inn a b, env => (a.sem env).bind fun x => (b.sem env).bind fun y => (inD x y).bind fun b => .ok (.bl b)
  | .notin a b, env => (a.sem env).bind fun x => (b.sem env).bind fun y => (inD x y).bind fun b => .ok (.bl (!b))
  | .not a, env => (a.sem env).bind notD
  | .and a b, env => andD (a.sem env) (b.sem env)
  | .or a b, env => orD (a.sem env) (b.sem env)
  | .ite c a b, env => boolD (c.sem env) fun t => if t = true then a.sem env else b.sem env
  | .ix a b, env => (a.sem env).bind fun x => (b.sem env).bind fun y => ixD x y
  | .slL a lo hi, env => (a.sem env).bind fun x => (lo.sem env).bind fun l => (hi.sem env).bind fun h => slLD x l h
  | .slT a lo hi, env => (a.sem env).bind fun x => (lo.sem env).bind fun l => (hi.sem env).bind fun h => slTD x l h
  | .cat a b, env => (a.sem env).bind fun x => (b.sem env).bind fun y => catD x y
  | .catT a b, env => (a.sem env).bind fun x => (b.sem env).bind fun y => catTD x y
  | .rep a b, env => (a.sem env).bind fun x => (b.sem env).bind fun y => repD x y
  | .tup es, env => (es.sem env).bind fun ds => if ds.length ≤ line then .ok (.tup ds) else .stuck
  | .lst es, env => (es.sem env).bind fun ds => if ds.length ≤ line then .ok (.lst ds) else .stuck
  | .call f es, env => (es.sem env).bind fun ds => G f ds
  | .len a, env => (a.sem env).bind lenD
  | .lstOf a, env => (a.sem env).bind lstOfD
  | .tupOf a, env => (a.sem env).bind tupOfD
  | .lrng a, env => (a.sem env).bind fun x => match x with | .int n => if 0 ≤ n ∧ n ≤ line then .ok (.lst (rangeD 0 n)) else .stuck | _ => .stuck
  | .abs a, env => (a.sem env).bind absD
  | .max2 a b, env => (a.sem env).bind fun x => (b.sem env).bind fun y => max2D x y
  | .min2 a b, env => (a.sem env).bind fun x => (b.sem env).bind fun y => min2D x y
  | .sum a, env => (a.sem env).bind sumD
  | .isI t a, env => (a.sem env).bind fun x => isTy t x
  | .comp tg it e, env => (it.sem env).bind fun ds => (compD (fun d => (setTg tg d (wipeE env tg)).bind fun env' => ((e.sem env').calm).bind fun x => .ok (some x)) ds).bind fun r => if r.length ≤ line then .ok (.lst r) else .stuck
  | .compIf tg it c e, env => (it.sem env).bind fun ds => (compD (fun d => (setTg tg d (wipeE env tg)).bind fun env' => boolD ((c.sem env').calm) fun t => if t = true then ((e.sem env').calm).bind fun x => .ok (some x) else .ok none) ds).bind fun r => if r.length ≤ line then .ok (.lst r) else .stuck
  | .dnew, _ => .ok (.dic [])
  | .dget a b, env => (a.sem env).bind fun x => (b.sem env).bind fun y => dgetD x y
  | .din a b, env => (a.sem env).bind fun x => (b.sem env).bind fun y => (dinD x y).bind fun b => .ok (.bl b)
  | .dnotin a b, env => (a.sem env).bind fun x => (b.sem env).bind fun y => (dinD x y).bind fun b => .ok (.bl (!b))
  | .maxL a, env => (a.sem env).bind maxLD
  | .isX cs _ a, env => (a.sem env).bind (isXD cs)
  | .isVE a, env => (a.sem env).bind isVED
  | .xf f a, env => (a.sem env).bind (xfD f)
  | .mkx c fs es, env => (es.sem env).bind fun ds => match mkFs fs ds with | some g => .ok (.exc c g) | none => .stuck
  | .fld f a, env => (a.sem env).bind (fldD f)
  | .meth f m a es, env => (a.sem env).bind fun x => if noFld m x = true then (es.sem env).bind fun ds => G f (x :: ds) else .stuck
  | .mk f es, env => (es.sem env).bind fun ds => G f ds
  | .idx a b, env => (a.sem env).bind fun x => if isLst x = true then (b.sem env).bind fun y => idxD x y else .stuck
  | .revL a, env => (a.sem env).bind revD
  | .gint _ i, _ => .ok (.int i)
def Es.sem : Es → Env → Res (List D)
  | .nil, _ => .ok []
  | .cons e es, env => (e.sem env).bind fun d => (es.sem env).bind fun ds => .ok (d :: ds)
def O.sem : O → Env → Res (Option Int)
  | .no, _ => .ok none
  | .yes e, env => (e.sem env).bind fun d => match d with | .int i => .ok (some i) | _ => .stuck
def It.sem : It → Env → Res (List D)
  | .lst e, env => (e.sem env).bind fun d => match d with | .lst xs => .ok xs | .scr xs => .ok (xs.map D.int) | _ => .stuck
  | .tup e, env => (e.sem env).bind fun d => match d with | .tup xs => .ok xs | _ => .stuck
  | .rng e, env => (e.sem env).bind fun d => match d with | .int n => if small n = true then .ok (rangeD 0 n) else .stuck | _ => .stuck
  | .rng2 a b, env => (a.sem env).bind fun x => (b.sem env).bind fun y => match x, y with
    | .int m, .int n => if small m = true ∧ small n = true then .ok (rangeD m n) else .stuck
    | _, _ => .stuck
  | .enum e, env => (e.sem env).bind fun d => match d with | .lst xs => .ok (xs.zipIdx.map fun p => D.tup [.int p.2, p.1]) | _ => .stuck
  | .zip a b, env => (a.sem env).bind fun x => (b.sem env).bind fun y => match x, y with
    | .lst xs, .lst ys => .ok ((xs.zip ys).map fun p => D.tup [p.1, p.2])
    | _, _ => .stuck
  | .rev e, env => (e.sem env).bind fun d => match d with | .lst xs => .ok xs.reverse | _ => .stuck
  | .zipT a b, env => (a.sem env).bind fun x => (b.sem env).bind fun y => match x, y with
    | .tup xs, .lst ys => .ok ((xs.zip ys).map fun p => D.tup [p.1, p.2])
    | _, _ => .stuck
end
end

/-! ### changes in place -/
/-- .. at a path -/
def atPath (f : D → Res D) : List D → D → Res D
  | [], d => f d
  | .int i :: p, .lst xs => match L2.ixN xs.length i with
    | some j => (match xs[j]? with | some c => (atPath f p c).bind fun c' => .ok (.lst (xs.set j c')) | none => .stuck)
    | none => .stuck
  | _, _ => .stuck
def appD (d : D) : D → Res D
  | .lst xs => if xs.length < line then .ok (.lst (xs ++ [d])) else .stuck
  | _ => .stuck
def setD (i : D) (d : D) : D → Res D
  | .lst xs => match i with | .int i => (match L2.ixN xs.length i with | some j => .ok (.lst (xs.set j d)) | none => .stuck) | _ => .stuck
  | _ => .stuck
def dputD (k : D) (d : D) : D → Res D
  | .dic kvs => match keyD k with | some ks => if kvs.length < line then .ok (.dic (putD kvs ks d)) else .stuck | none => .stuck
  | _ => .stuck
/-- one more, at a place -/
def insD (i : D) (d : D) : D → Res D
  | .lst xs => match i with | .int i => if 0 ≤ i ∧ i < 2 ^ 62 ∧ xs.length < line then .ok (.lst (xs.take i.toNat ++ [d] ++ xs.drop i.toNat)) else .stuck | _ => .stuck
  | _ => .stuck
/-- one less, at a place -/
def popD (i : D) : D → Res D
  | .lst xs => match i with | .int i => (match L2.ixN xs.length i with | some j => if xs.length < line then .ok (.lst (xs.eraseIdx j)) else .stuck | none => .stuck) | _ => .stuck
  | _ => .stuck
def clrD : D → Res D
  | .lst _ => .ok (.lst [])
  | _ => .stuck
/-- a name's value is changed -/
def chg (x : Nat) (ks : List D) (f : D → Res D) (env : Env) : Res Env := match env[x]? with
  | some (some d) => (atPath f ks d).bind fun d' => .ok (env.set x (some d'))
  | _ => .stuck

/-! ### statements -/
/-- what an except suite may say -/
inductive Eh where
  | v (i : Nat)
  | isX (cs : List Nat) (tp : Bool) (i : Nat)
  | isVE (i : Nat)
  | and (a b : Eh)
inductive S where
  | skip
  | seq (a b : S)
  | asg (i : Nat) (e : E)
  | unp (is : List Nat) (e : E)
  | par (is : List Nat) (es : Es)
  | app (x : Nat) (p : Es) (e : E)
  | set (x : Nat) (p : Es) (i e : E)
  | put (x : Nat) (p : Es) (k e : E)
  | clr (x : Nat) (p : Es)
  | ins (x : Nat) (p : Es) (i e : E)
  | pop (x : Nat) (p : Es) (i : E)
  | iff (c : E) (a b : S)
  | for_ (tg : List Nat) (it : It) (b : S)
  | whl (c : E) (b : S)
  | ret (e : E)
  | drop (e : E)
  | nev
  | dem (i f : Nat) (s : S)
  | rse (c : Nat)
  | rsf (c : Nat) (fs : List Str) (es : Es)
  | try_ (e : E) (x : Nat) (h : List (Nat × Eh))
  /-- x = y, where y is not read again -/
  | mov (i j : Nat)
  /-- x = l[e], then s, in which x may be changed; l is not spoken of in s -/
  | brw (x l : Nat) (e : E) (s : S)
inductive Out where
  | nx (env : Env)
  | rt (d : D)
def Out.andThen : Res Out → (Env → Res Out) → Res Out
  | .ok (.nx env), f => f env
  | .ok (.rt d), _ => .ok (.rt d)
  | .exc c fs, _ => .exc c fs
  | .stuck, _ => .stuck
@[simp] theorem then_nx (env : Env) (f : Env → Res Out) : Out.andThen (.ok (.nx env)) f = f env := rfl
@[simp] theorem then_rt (d : D) (f : Env → Res Out) : Out.andThen (.ok (.rt d)) f = .ok (.rt d) := rfl
@[simp] theorem then_exc (c : Nat) (fs : List (Str × Int)) (f : Env → Res Out) : Out.andThen (.exc c fs) f = .exc c fs := rfl
@[simp] theorem then_stuck (f : Env → Res Out) : Out.andThen .stuck f = .stuck := rfl
def forD (f : D → Env → Res Out) : List D → Env → Res Out
  | [], env => .ok (.nx env)
  | d :: r, env => Out.andThen (f d env) (forD f r)
def setAll : List Nat → List D → Env → Res Env
  | [], [], env => .ok env
  | i :: is, d :: ds, env => setAll is ds (env.set i (some d))
  | _, _, _ => .stuck
def whileN (c : Env → Res D) (b : Env → Res Out) : Nat → Env → Res Out
  | 0, _ => .stuck
  | n + 1, env => boolD (c env) fun t => if t = true then Out.andThen (b env) (whileN c b n) else .ok (.nx env)
open Classical in
noncomputable def whileD (c : Env → Res D) (b : Env → Res Out) (env : Env) : Res Out := if h : ∃ n, whileN c b n env ≠ .stuck then whileN c b h.choose env else .stuck
theorem whileN_more (c : Env → Res D) (b : Env → Res Out) : ∀ (n : Nat) (env : Env), whileN c b n env ≠ .stuck → whileN c b (n + 1) env = whileN c b n env := by
  intro n
  induction n with
  | zero => intro env h; exact absurd rfl h
  | succ n ih =>
    intro env h
    show boolD (c env) (fun t => if t = true then Out.andThen (b env) (whileN c b (n + 1)) else .ok (.nx env)) = boolD (c env) (fun t => if t = true then Out.andThen (b env) (whileN c b n) else .ok (.nx env))
    have h' : boolD (c env) (fun t => if t = true then Out.andThen (b env) (whileN c b n) else .ok (.nx env)) ≠ .stuck := h
    cases hc : c env with
    | exc k fs => rfl
    | stuck => rfl
    | ok d =>
      cases d with
      | bl t =>
        rw [hc] at h'
        simp only [boolD_ok] at h' ⊢
        cases t with
        | false => rfl
        | true =>
          simp only [if_true] at h' ⊢
          cases hb : b env with
          | exc k fs => rfl
          | stuck => rfl
          | ok o =>
            cases o with
            | rt d => rfl
            | nx env' =>
              rw [hb] at h'
              exact ih env' h'
      | _ => rfl
theorem whileN_le (c : Env → Res D) (b : Env → Res Out) {n m : Nat} (h : n ≤ m) (env : Env) (hs : whileN c b n env ≠ .stuck) : whileN c b m env = whileN c b n env := by
  induction m with
  | zero =>
    have e : n = 0 := by omega
    rw [e]
  | succ m ih =>
    by_cases e : n = m + 1
    · rw [e]
    · have i := ih (by omega)
      rw [whileN_more c b m env (by rw [i]; exact hs), i]
theorem whileD_of (c : Env → Res D) (b : Env → Res Out) {n : Nat} {env : Env} {r : Res Out} (h : whileN c b n env = r) (hs : r ≠ .stuck) : whileD c b env = r := by
  have ex : ∃ n, whileN c b n env ≠ .stuck := ⟨n, by rw [h]; exact hs⟩
  unfold whileD
  rw [dif_pos ex]
  have h1 := ex.choose_spec
  have h2 := whileN_le c b (Nat.le_max_left ex.choose n) env h1
  have h3 := whileN_le c b (Nat.le_max_right ex.choose n) env (by rw [h]; exact hs)
  rw [← h2, h3, h]
theorem whileD_ex (c : Env → Res D) (b : Env → Res Out) {env : Env} (hs : whileD c b env ≠ .stuck) : ∃ n, whileN c b n env = whileD c b env := by
  unfold whileD at hs ⊢
  by_cases ex : ∃ n, whileN c b n env ≠ .stuck
  · rw [dif_pos ex]; exact ⟨_, rfl⟩
  · rw [dif_neg ex] at hs; exact absurd rfl hs
/-- one turn -/
theorem whileD_step (c : Env → Res D) (b : Env → Res Out) (env : Env) : whileD c b env = boolD (c env) fun t => if t = true then Out.andThen (b env) (whileD c b) else .ok (.nx env) := by
  cases hc : c env with
  | exc k fs => exact whileD_of c b (n := 1) (by show boolD (c env) _ = _; rw [hc]; rfl) (by intro z; cases z)
  | stuck =>
    have : ∀ n, whileN c b n env = .stuck := fun n => by
      cases n with
      | zero => rfl
      | succ n => show boolD (c env) _ = _; rw [hc]; rfl
    unfold whileD
    rw [dif_neg (by rintro ⟨n, h⟩; exact h (this n))]; rfl
  | ok d =>
    by_cases hd : ∃ t, d = .bl t
    · obtain ⟨t, rfl⟩ := hd
      simp only [boolD_ok]
      cases t with
      | false => exact whileD_of c b (n := 1) (by show boolD (c env) _ = _; rw [hc]; rfl) (by intro z; cases z)
      | true =>
        simp only [if_true]
        have one : ∀ n, whileN c b (n + 1) env = Out.andThen (b env) (whileN c b n) := fun n => by
          show boolD (c env) _ = _
          rw [hc]; rfl
        cases hb : b env with
        | exc k fs => exact whileD_of c b (n := 1) (by rw [one, hb]; rfl) (by intro z; cases z)
        | ok o =>
          cases o with
          | rt d => exact whileD_of c b (n := 1) (by rw [one, hb]; rfl) (by intro z; cases z)
          | nx env' =>
            simp only [then_nx]
            by_cases hs : whileD c b env' = .stuck
            · rw [hs]
              unfold whileD
              rw [dif_neg]
              rintro ⟨n, h⟩
              cases n with
              | zero => exact h rfl
              | succ n =>
                rw [one, hb] at h
                have h' : whileN c b n env' ≠ .stuck := h
                have := whileD_of c b (n := n) (env := env') rfl h'
                rw [hs] at this
                exact h' this.symm
            · obtain ⟨n, e⟩ := whileD_ex c b hs
              refine whileD_of c b (n := n + 1) ?_ hs
              rw [one, hb]
              exact e
        | stuck =>
          unfold whileD
          rw [dif_neg]; rfl
          rintro ⟨n, h⟩
          cases n with
          | zero => exact h rfl
          | succ n => rw [one, hb] at h; exact h rfl
    · have hn : ∀ (f : Bool → Res Out), boolD (.ok d) f = .stuck := fun f => by
        cases d with
        | bl t => exact absurd ⟨t, rfl⟩ hd
        | _ => rfl
      rw [hn]
      unfold whileD
      rw [dif_neg]
      rintro ⟨n, h⟩
      cases n with
      | zero => exact h rfl
      | succ n => exact h (by show boolD (c env) _ = _; rw [hc, hn])

def getD' (env : Env) (i : Nat) : Res D := match env[i]? with | some (some d) => .ok d | _ => .stuck
def Eh.sem : Eh → Env → Res D
  | .v i, env => getD' env i
  | .isX cs _ i, env => (getD' env i).bind (isXD cs)
  | .isVE i, env => (getD' env i).bind isVED
  | .and a b, env => andD (a.sem env) (b.sem env)
/-- an except suite -/
def runH : List (Nat × Eh) → Env → Res Env
  | [], env => .ok env
  | (i, e) :: r, env => (e.sem env).bind fun d => if d.pure = true then runH r (env.set i (some d)) else .stuck
/-- the list in a list that is lent: the list, the place, what stands there -/
def brwE (l : Nat) (k : D) (env : Env) : Res (List D × Nat × List D) := match env[l]? with
  | some (some (.lst ds)) => (match k with
    | .int i => (match L2.ixN ds.length i with
      | some j => (match ds[j]? with | some (.lst c) => .ok (ds, j, c) | _ => .stuck)
      | none => .stuck)
    | _ => .stuck)
  | _ => .stuck
section
variable (G : Gam)
noncomputable def S.sem : S → Env → Res Out
  | .skip, env => .ok (.nx env)
  | .seq a b, env => Out.andThen (a.sem env) b.sem
  | .mov i j, env => match env[j]? with | some (some d) => .ok (.nx ((env.set j none).set i (some d))) | _ => .stuck
  | .asg i e, env => (e.sem G env).bind fun d => .ok (.nx (env.set i (some d)))
  | .unp is e, env => (e.sem G env).bind fun d => match d with | .tup ds => (setAll is ds env).bind fun env' => .ok (.nx env') | _ => .stuck
  | .par is es, env => (es.sem G env).bind fun ds => (setAll is ds env).bind fun env' => .ok (.nx env')
  | .app x p e, env => (p.sem G env).calm.bind fun ks => (e.sem G env).calm.bind fun d => (chg x ks (appD d) env).bind fun env' => .ok (.nx env')
  | .set x p i e, env => (p.sem G env).calm.bind fun ks => (i.sem G env).calm.bind fun j => (e.sem G env).bind fun d => (chg x ks (setD j d) env).bind fun env' => .ok (.nx env')
  | .put x p k e, env => (p.sem G env).calm.bind fun ks => (k.sem G env).calm.bind fun j => (e.sem G env).bind fun d => (chg x ks (dputD j d) env).bind fun env' => .ok (.nx env')
  | .clr x p, env => (p.sem G env).calm.bind fun ks => (chg x ks clrD env).bind fun env' => .ok (.nx env')
  | .ins x p i e, env => (p.sem G env).calm.bind fun ks => (i.sem G env).calm.bind fun j => (e.sem G env).calm.bind fun d => (chg x ks (insD j d) env).bind fun env' => .ok (.nx env')
  | .pop x p i, env => (p.sem G env).calm.bind fun ks => (i.sem G env).calm.bind fun j => (chg x ks (popD j) env).bind fun env' => .ok (.nx env')
  | .brw x l e s, env => (e.sem G env).calm.bind fun k => (brwE l k env).bind fun jc => match s.sem ((env.set l none).set x (some (.lst jc.2.2))) with
    | .ok (.nx env2) => (match env2[x]? with | some (some c) => .ok (.nx ((env2.set l (some (.lst (jc.1.set jc.2.1 c)))).set x none)) | _ => .stuck)
    | r => r
  | .iff c a b, env => boolD (c.sem G env) fun t => if t = true then a.sem env else b.sem env
  | .for_ tg it b, env => (it.sem G env).bind fun ds => forD (fun d env => (setTg tg d env).bind fun env' => b.sem env') ds env
  | .whl c b, env => whileD (fun env => c.sem G env) (fun env => b.sem env) env
  | .ret e, env => (e.sem G env).bind fun d => .ok (.rt d)
  | .drop e, env => (e.sem G env).bind fun _ => .ok (.nx env)
  | .nev, _ => .stuck
  | .dem _ _ s, env => s.sem env
  | .rse c, _ => .exc c []
  | .rsf c fs es, env => (es.sem G env).bind fun ds => match mkFs fs ds with | some g => .exc c g | none => .stuck
  | .try_ e x h, env => match e.sem G env with
    | .ok _ => .ok (.nx env)
    | .exc c fs => (runH h (env.set x (some (.exc c fs)))).bind fun env' => .ok (.nx (env'.set x none))
    | .stuck => .stuck
/-- a def: n parameters (those of class 9 want a value that can't change), m names -/
def purP : List Nat → List D → Bool
  | [], [] => true
  | f :: fs, d :: ds => (f != 9 || d.pure) && purP fs ds
  | _, _ => false
def outD : Res Out → Res D
  | .ok (.rt d) => .ok d
  | .ok (.nx _) => .ok .non
  | .exc c fs => .exc c fs
  | .stuck => .stuck
noncomputable def semF (pf : List Nat) (m : Nat) (body : S) : Fn := fun ds => if purP pf ds = true then outD (body.sem G (ds.map some ++ List.replicate (m - ds.length) none)) else .stuck
end

/-! ### whose a value is: 0 nobody knows; 1 what was handed in; 2 made here, perhaps told elsewhere too; 2 + k: k layers of it ours alone; 9 nothing in it can change -/
abbrev Fls := List Nat
def dispC (m : Nat) : Nat := if m = 9 then 8 else if m = 2 then 3 else if m ≤ 1 then m else if m ≤ 7 then m + 1 else 8
def tupC (m : Nat) : Nat := if m = 9 then 9 else min m 2
/-- the class of what a name's value holds -/
def vC (f : Nat) : Nat := if f = 9 then 9 else if f ≤ 2 then f else 0
def vCC (f : Nat) : Nat := if f = 9 then 9 else if f ≤ 2 then f else if f = 3 then 2 else 0
def setFl : List Nat → Nat → Fls → Fls
  | [], _, fl => fl
  | i :: is, c, fl => setFl is c (fl.set i c)
abbrev prC (m : Nat) : Nat × Nat := (m, tupC m)
section
variable (rc : Nat → Nat)
mutual
/-- the class of a term's value, and of what it holds -/
def E.cc : E → Fls → Nat × Nat
  | .v i, fl => (vC (fl.getD i 0), vCC (fl.getD i 0))
  | .pin a, fl => ((a.cc fl).1, 9)
  | .ite _ a b, fl => prC (min (a.cc fl).1 (b.cc fl).1)
  | .ix a _, fl => prC (tupC (a.cc fl).2)
  | .slL a _ _, fl => prC (dispC (tupC (a.cc fl).2))
  | .slT a _ _, fl => prC (tupC (a.cc fl).2)
  | .cat a b, fl => prC (dispC (tupC (min (a.cc fl).2 (b.cc fl).2)))
  | .catT a b, fl => prC (tupC (min (a.cc fl).2 (b.cc fl).2))
  | .rep a _, fl => prC (dispC (tupC (a.cc fl).2))
  | .tup es, fl => prC (tupC (es.cls fl))
  | .lst es, fl => prC (dispC (es.cls fl))
  | .call f _, _ => prC (rc f)
  | .lstOf a, fl => prC (dispC (tupC (a.cc fl).2))
  | .tupOf a, fl => prC (tupC (a.cc fl).2)
  | .lrng _, _ => prC 8
  | .comp tg it e, fl => prC (dispC (e.cc (setFl tg (it.cls fl) fl)).1)
  | .compIf tg it _ e, fl => prC (dispC (e.cc (setFl tg (it.cls fl) fl)).1)
  | .dnew, _ => prC 8
  | .dget a _, fl => prC (tupC (a.cc fl).2)
  | .fld _ a, fl => prC (tupC (a.cc fl).2)
  | .meth f _ _ _, _ => prC (rc f)
  | .mk f _, _ => prC (rc f)
  | .revL a, fl => prC (dispC (tupC (a.cc fl).2))
  | _, _ => (9, 9)
def Es.cls : Es → Fls → Nat
  | .nil, _ => 9
  | .cons e es, fl => min (e.cc fl).1 (es.cls fl)
def It.cls : It → Fls → Nat
  | .lst e, fl => (e.cc fl).2
  | .tup e, fl => (e.cc fl).2
  | .rng _, _ => 9
  | .rng2 _ _, _ => 9
  | .enum e, fl => tupC (e.cc fl).2
  | .zip a b, fl => tupC (min (a.cc fl).2 (b.cc fl).2)
  | .rev e, fl => (e.cc fl).2
  | .zipT a b, fl => tupC (min (a.cc fl).2 (b.cc fl).2)
end
/-- .. of what is walked itself -/
def It.cls0 : It → Fls → Nat
  | .lst e, fl => tupC (e.cc rc fl).1
  | .tup e, fl => tupC (e.cc rc fl).1
  | .rng _, _ => 9
  | .rng2 _ _, _ => 9
  | .enum e, fl => tupC (e.cc rc fl).1
  | .zip a b, fl => tupC (min (a.cc rc fl).1 (b.cc rc fl).1)
  | .rev e, fl => tupC (e.cc rc fl).1
  | .zipT a b, fl => tupC (min (a.cc rc fl).1 (b.cc rc fl).1)
abbrev E.cls (e : E) (fl : Fls) : Nat := (e.cc rc fl).1
abbrev E.cct (e : E) (fl : Fls) : Nat := (e.cc rc fl).2
end

/-! ### the names' classes through a statement: none: refused; some none: no way on -/
section
variable (rc : Nat → Nat) (R : Nat)
def joinF : Fls → Fls → Fls
  | a :: r, b :: q => min a b :: joinF r q
  | _, _ => []
/-- at most, but known -/
def leF : Fls → Fls → Bool
  | [], [] => true
  | a :: r, b :: q => decide (1 ≤ a ∧ a ≤ b) && leF r q
  | _, _ => false
abbrev FO := Option (Option Fls)
def FO.join : FO → FO → FO
  | some none, x => x
  | some (some a), some none => some (some a)
  | some (some a), some (some b) => if leF (joinF a b) a && leF (joinF a b) b then some (some (joinF a b)) else none
  | _, _ => none
/-- a loop's own classes: those that its body keeps -/
def loopF (t : Fls → FO) : Nat → Fls → Fls
  | 0, fl => fl
  | n + 1, fl => match t fl with
    | some (some f) => if leF fl f = true then fl else loopF t n (joinF fl f)
    | _ => fl
def loopC (t : Fls → FO) (fl : Fls) : FO :=
  let I := loopF t 2 fl
  if leF I fl = true then (match t I with
    | some none => some (some I)
    | some (some f) => if leF I f = true then some (some I) else none
    | none => none) else none
def retC : E → Fls → Nat
  | .v i, fl => fl.getD i 0
  | e, fl => e.cls rc fl
/-- a change of x at this depth, by a value of class c -/
def mutC (x : Nat) (n c : Nat) (fl : Fls) : FO := if 2 ≤ c ∧ n + 3 ≤ fl.getD x 0 ∧ fl.getD x 0 ≠ 9 ∧ fl.getD x 0 ≤ n + 1 + c then some (some fl) else none
def Es.len : Es → Nat
  | .nil => 0
  | .cons _ es => es.len + 1
def setC : List Nat → List Nat → Fls → Fls
  | i :: is, c :: cs, fl => setC is cs (fl.set i c)
  | _, _, fl => fl
/-- the names that a statement gives a value -/
def S.asn : S → Nat → Bool
  | .seq a b, i => a.asn i || b.asn i
  | .asg x _, i => x == i
  | .unp is _, i => is.contains i
  | .par is _, i => is.contains i
  | .iff _ a b, i => a.asn i || b.asn i
  | .for_ tg _ b, i => tg.contains i || b.asn i
  | .whl _ b, i => b.asn i
  | .dem _ _ s, i => s.asn i
  | .try_ _ x h, i => x == i || h.any fun z => z.1 == i
  | .mov x _, i => x == i
  | .brw x _ _ s, i => x == i || s.asn i
  | _, _ => false
def S.tr : S → Fls → FO
  | .skip, fl => some (some fl)
  | .seq a b, fl => match a.tr fl with
    | some (some f) => b.tr f
    | x => x
  | .mov i j, fl => if i ≠ j ∧ i < fl.length ∧ j < fl.length then some (some ((fl.set j 1).set i (fl.getD j 0))) else none
  | .asg i e, fl => if i < fl.length ∧ e.cls rc fl ≠ 0 then some (some (fl.set i (e.cls rc fl))) else none
  | .unp is e, fl => if (is.all fun i => decide (i < fl.length)) = true ∧ e.cct rc fl ≠ 0 then some (some (setFl is (e.cct rc fl) fl)) else none
  | .par is es, fl => if (is.all fun i => decide (i < fl.length)) = true ∧ tupC (es.cls rc fl) ≠ 0 then some (some (setFl is (tupC (es.cls rc fl)) fl)) else none
  | .app x p e, fl => mutC x p.len (e.cls rc fl) fl
  | .set x p _ e, fl => mutC x p.len (e.cls rc fl) fl
  | .put x p _ e, fl => if fl.getD x 0 = p.len + 3 then mutC x p.len (e.cls rc fl) fl else none
  | .clr x p, fl => mutC x p.len 9 fl
  | .ins x p _ e, fl => if fl.getD x 0 = p.len + 3 then mutC x p.len (e.cls rc fl) fl else none
  | .pop x p _, fl => if fl.getD x 0 = p.len + 3 then mutC x p.len 9 fl else none
  | .brw x l _ s, fl => if x ≠ l ∧ x < fl.length ∧ l < fl.length ∧ 4 ≤ fl.getD l 0 ∧ fl.getD l 0 ≠ 9 ∧ s.asn x = false ∧ s.asn l = false then
      (match s.tr ((fl.set l 1).set x (fl.getD l 0 - 1)) with
      | some (some g) => if g.getD x 0 = fl.getD l 0 - 1 ∧ x < g.length ∧ l < g.length then some (some ((g.set l (fl.getD l 0)).set x 1)) else none
      | r => r) else none
  | .iff _ a b, fl => FO.join (a.tr fl) (b.tr fl)
  | .for_ tg it b, fl => if (tg.all fun i => decide (i < fl.length)) = true ∧ it.cls0 rc fl ≠ 0 then loopC (fun f => b.tr (setFl tg (it.cls0 rc fl) f)) fl else none
  | .whl _ b, fl => loopC b.tr fl
  | .ret e, fl => if R ≤ retC rc e fl then some none else none
  | .drop _, fl => some (some fl)
  | .nev, _ => some none
  | .dem i f s, fl => if 2 ≤ f ∧ f ≤ fl.getD i 0 then s.tr (fl.set i f) else none
  | .rse _, _ => some none
  | .rsf _ _ _, _ => some none
  | .try_ _ x h, fl => if x < fl.length ∧ fl.getD x 0 = 9 ∧ (h.all fun z => decide (z.1 < fl.length) && decide (fl.getD z.1 0 = 9)) = true then some (some fl) else none
end
end Tr

/-! How trees lie in an abstract heap. -/
namespace Tr
open PySem PySem.Spec PyProof.Rows L2

/-- what the module's facts give: the written part, the table's class, the exceptions' classes -/
structure Pm where
  K : PySem.W.Frag
  tc : Addr
  cad : Nat → Addr
  xr : List Nat
/-- .. and the names that keep their value, the cells that stay as they are (and whose they are) -/
structure Pz extends Pm where
  fz : Nat → Option V
  fc : Addr → Option (HO × (Nat × List Nat))
instance : Coe Pz Pm := ⟨Pz.toPm⟩
abbrev Pz.fzd (p : Pz) (z : Nat → Option V) (c : Addr → Option (HO × (Nat × List Nat))) : Pz := ⟨p.toPm, z, c⟩
abbrev Pm.z0 (p : Pm) : Pz := ⟨p, fun _ => none, fun _ => none⟩

/-- the script: known to the object, or an object of the module -/
def ScrAt (K : PySem.W.Frag) (H : Hp) (a : Addr) (xs : List V) : Prop :=
  (∃ o, H a = some (.frz o (.lst xs))) ∨ SqL K (fun _ => none) a xs
theorem ScrAt.seq {K : PySem.W.Frag} {H : Hp} {a : Addr} {xs : List V} (h : ScrAt K H a xs) : SqL K H a xs := by
  rcases h with ⟨o, h⟩ | (h | ⟨o, h⟩) | h
  · exact .inl (.inr ⟨o, h⟩)
  · cases h
  · cases h
  · exact .inr h
theorem ScrAt.of {K : PySem.W.Frag} {H : Hp} {a : Addr} {xs : List V} (ho : Only H) (h : SqL K H a xs) : ScrAt K H a xs := by
  rcases h with (h | ⟨o, h⟩) | h
  · rcases ho a with z | ⟨o, ys, z⟩
    · rw [z] at h; cases h
    · rw [z] at h; cases h
  · exact .inl ⟨o, h⟩
  · exact .inr (.inr h)

/-- a caught exception at a -/
def ExH (cls : Value) (d : Option Addr) (a : Addr) : HO := .ext fun h => ∃ (oe : Obj) (vs : Array Value), h.get? a = some oe ∧ Zc cls d oe ∧ oe.data = .fields vs
/-- its fields -/
def XD (H : Hp) (fs : List (Str × Int)) (dd : Option Addr) : Prop := (fs = [] ∧ dd = none) ∨ ∃ d gs, dd = some d ∧ H d = some (.xd gs) ∧ ∀ f i, fs.lookup f = some i → gs.lookup f = some (V.int i)

section
variable (p : Pm) (H : Hp)
mutual
/-- the tree lies at the value; no cell of it is one of av -/
def Rep (av : Addr → Prop) : D → V → Prop
  | .non, v => v = .non
  | .bl b, v => v = .bl b
  | .int i, v => v = .int i
  | .str s, v => v = .str s
  | .tup ds, v => ∃ a vs, v = .ref a ∧ H a = some (.tup vs) ∧ RepL av ds vs
  | .lst ds, v => ∃ a vs, v = .ref a ∧ H a = some (.lst vs) ∧ ¬ av a ∧ RepL av ds vs
  | .dic kvs, v => ∃ a ws, v = .ref a ∧ H a = some (.dT ws) ∧ ¬ av a ∧ RepK av kvs ws
  | .scr xs, v => ∃ a, v = .ref a ∧ ScrAt p.K H a (xs.map V.int)
  | .obj fs, v => ∃ a dx gs, v = .ref a ∧ H a = some (.ins p.tc dx gs) ∧ ¬ av a ∧ RepF av fs gs
  | .exc c fs, v => ∃ a dd, v = .ref a ∧ H a = some (ExH (.ref (p.cad c)) dd a) ∧ XD H fs dd ∧ c ∈ p.xr
def RepL (av : Addr → Prop) : List D → List V → Prop
  | [], vs => vs = []
  | d :: ds, vs => ∃ v r, vs = v :: r ∧ Rep av d v ∧ RepL av ds r
def RepK (av : Addr → Prop) : List (List Int × D) → List (List Key × V) → Prop
  | [], ws => ws = []
  | (k, d) :: r, ws => ∃ v q, ws = (k.map Sum.inl, v) :: q ∧ Rep av d v ∧ RepK av r q
def RepF (av : Addr → Prop) : List (Str × D) → List (Str × V) → Prop
  | [], ws => ws = []
  | (k, d) :: r, ws => ∃ v q, ws = (k, v) :: q ∧ Rep av d v ∧ RepF av r q
end
end

/-- what is never written again -/
def fixedO : HO → Bool
  | .tup _ => true
  | .frz _ _ => true
  | .ext _ => true
  | .xd _ => true
  | _ => false
/-- what a change leaves as it was -/
structure Keep (av : Addr → Prop) (H H' : Hp) : Prop where
  cell : ∀ a o, H a = some o → ¬ av a → H' a = some o
  fix : ∀ a o, fixedO o = true → H a = some o → H' a = some o
theorem Keep.tup {av : Addr → Prop} {H H' : Hp} (k : Keep av H H') (a : Addr) (vs : List V) (h : H a = some (.tup vs)) : H' a = some (.tup vs) := k.fix a _ rfl h
theorem Keep.frz {av : Addr → Prop} {H H' : Hp} (k : Keep av H H') (a : Addr) (o : Obj) (u : HO) (h : H a = some (.frz o u)) : H' a = some (.frz o u) := k.fix a _ rfl h
abbrev nobody : Addr → Prop := fun _ => False
theorem Keep.same {av : Addr → Prop} {H H' : Hp} (h : Same H H') : Keep av H H' := ⟨fun a o e _ => h a o e, fun a o _ e => h a o e⟩
theorem ScrAt.keep {K : PySem.W.Frag} {H H' : Hp} {av : Addr → Prop} (k : Keep av H H') {a : Addr} {xs : List V} (h : ScrAt K H a xs) : ScrAt K H' a xs := by
  rcases h with ⟨o, h⟩ | h
  · exact .inl ⟨o, k.frz _ _ _ h⟩
  · exact .inr h
theorem XD.keep {H H' : Hp} {av : Addr → Prop} (k : Keep av H H') {fs : List (Str × Int)} {dd : Option Addr} (h : XD H fs dd) : XD H' fs dd := by
  rcases h with h | ⟨d, gs, e, hd, g⟩
  · exact .inl h
  · exact .inr ⟨d, gs, e, k.fix _ _ rfl hd, g⟩
theorem no_of {H : Hp} {a : Addr} {o : HO} (h : H a = some o) (e : H a = none) : False := by rw [e] at h; cases h
section
variable {p : Pm} {H H' : Hp} {av av' : Addr → Prop}
mutual
theorem Rep.keep (k : Keep av H H') (w : ∀ a, av' a → av a ∨ H a = none) : ∀ (d : D) {v : V}, Rep p H av d v → Rep p H' av' d v
  | .non, _, h => h
  | .bl _, _, h => h
  | .int _, _, h => h
  | .str _, _, h => h
  | .tup ds, v, h => by
    obtain ⟨a, vs, e, ha, hr⟩ := h
    exact ⟨a, vs, e, k.tup _ _ ha, RepL.keep k w ds hr⟩
  | .lst ds, v, h => by
    obtain ⟨a, vs, e, ha, n, hr⟩ := h
    exact ⟨a, vs, e, k.cell _ _ ha n, fun z => (w a z).elim n (no_of ha), RepL.keep k w ds hr⟩
  | .dic kvs, v, h => by
    obtain ⟨a, vs, e, ha, n, hr⟩ := h
    exact ⟨a, vs, e, k.cell _ _ ha n, fun z => (w a z).elim n (no_of ha), RepK.keep k w kvs hr⟩
  | .scr xs, v, h => by
    obtain ⟨a, e, ha⟩ := h
    exact ⟨a, e, ha.keep k⟩
  | .obj fs, v, h => by
    obtain ⟨a, dx, gs, e, ha, n, hr⟩ := h
    exact ⟨a, dx, gs, e, k.cell _ _ ha n, fun z => (w a z).elim n (no_of ha), RepF.keep k w fs hr⟩
  | .exc c fs, v, h => by
    obtain ⟨a, dd, e, ha, hx, hr⟩ := h
    exact ⟨a, dd, e, k.fix _ _ rfl ha, hx.keep k, hr⟩
theorem RepL.keep (k : Keep av H H') (w : ∀ a, av' a → av a ∨ H a = none) : ∀ (ds : List D) {vs : List V}, RepL p H av ds vs → RepL p H' av' ds vs
  | [], _, h => h
  | d :: ds, vs, h => by
    obtain ⟨v, r, e, h1, h2⟩ := h
    exact ⟨v, r, e, Rep.keep k w d h1, RepL.keep k w ds h2⟩
theorem RepK.keep (k : Keep av H H') (w : ∀ a, av' a → av a ∨ H a = none) : ∀ (ds : List (List Int × D)) {vs : List (List Key × V)}, RepK p H av ds vs → RepK p H' av' ds vs
  | [], _, h => h
  | (c, d) :: ds, vs, h => by
    obtain ⟨v, r, e, h1, h2⟩ := h
    exact ⟨v, r, e, Rep.keep k w d h1, RepK.keep k w ds h2⟩
theorem RepF.keep (k : Keep av H H') (w : ∀ a, av' a → av a ∨ H a = none) : ∀ (ds : List (Str × D)) {vs : List (Str × V)}, RepF p H av ds vs → RepF p H' av' ds vs
  | [], _, h => h
  | (c, d) :: ds, vs, h => by
    obtain ⟨v, r, e, h1, h2⟩ := h
    exact ⟨v, r, e, Rep.keep k w d h1, RepF.keep k w ds h2⟩
end
theorem Rep.weak (w : ∀ a, av' a → av a ∨ H a = none) {d : D} {v : V} (h : Rep p H av d v) : Rep p H av' d v := Rep.keep (Keep.same fun _ _ e => e) w d h
theorem Rep.any {d : D} {v : V} (h : Rep p H av d v) : Rep p H nobody d v := h.weak fun _ z => z.elim
theorem Rep.same (s : Same H H') {d : D} {v : V} (h : Rep p H av d v) : Rep p H' av d v := Rep.keep (Keep.same s) (fun _ z => .inl z) d h
mutual
/-- where nothing can change, any cells may be avoided -/
theorem Rep.pure : ∀ (d : D) {v : V}, d.pure = true → Rep p H av' d v → Rep p H av d v
  | .non, _, _, h => h
  | .bl _, _, _, h => h
  | .int _, _, _, h => h
  | .str _, _, _, h => h
  | .tup ds, v, q, h => by
    obtain ⟨a, vs, e, ha, hr⟩ := h
    exact ⟨a, vs, e, ha, RepL.pure ds q hr⟩
  | .lst ds, v, q, h => by cases (show false = true from q)
  | .dic ds, v, q, h => by cases (show false = true from q)
  | .obj ds, v, q, h => by cases (show false = true from q)
  | .scr xs, v, _, h => h
  | .exc _ _, _, _, h => h
theorem RepL.pure : ∀ (ds : List D) {vs : List V}, D.pureL ds = true → RepL p H av' ds vs → RepL p H av ds vs
  | [], _, _, h => h
  | d :: ds, vs, q, h => by
    obtain ⟨v, r, e, h1, h2⟩ := h
    have q' : (d.pure && D.pureL ds) = true := q
    rw [Bool.and_eq_true] at q'
    exact ⟨v, r, e, Rep.pure d q'.1 h1, RepL.pure ds q'.2 h2⟩
end
theorem RepL.length : ∀ {ds : List D} {vs : List V}, RepL p H av ds vs → vs.length = ds.length
  | [], vs, h => by rw [show vs = [] from h]; rfl
  | d :: ds, vs, h => by
    obtain ⟨v, r, rfl, _, h2⟩ := h
    simp [RepL.length h2]
theorem RepL.get : ∀ {ds : List D} {vs : List V} {j : Nat} {d : D}, RepL p H av ds vs → ds[j]? = some d → ∃ v, vs[j]? = some v ∧ Rep p H av d v
  | [], _, _, _, _, e => by simp at e
  | x :: ds, vs, 0, d, h, e => by
    obtain ⟨v, r, rfl, h1, _⟩ := h
    have e' : x = d := by simpa using e
    exact ⟨v, rfl, e' ▸ h1⟩
  | x :: ds, vs, j + 1, d, h, e => by
    obtain ⟨v, r, rfl, _, h2⟩ := h
    obtain ⟨w, e1, e2⟩ := RepL.get (j := j) h2 (by simpa using e)
    exact ⟨w, by simpa using e1, e2⟩
theorem RepL.of : ∀ {ds : List D} {vs : List V}, vs.length = ds.length → (∀ (j : Nat) (d : D) (v : V), ds[j]? = some d → vs[j]? = some v → Rep p H av d v) → RepL p H av ds vs
  | [], vs, e, _ => List.length_eq_zero_iff.mp e
  | d :: ds, [], e, _ => by simp at e
  | d :: ds, v :: vs, e, h => ⟨v, vs, rfl, h 0 d v rfl rfl, RepL.of (by simpa using e) fun j x y h1 h2 => h (j + 1) x y (by simpa using h1) (by simpa using h2)⟩
theorem RepL.append : ∀ {ds es : List D} {vs ws : List V}, RepL p H av ds vs → RepL p H av es ws → RepL p H av (ds ++ es) (vs ++ ws)
  | [], _, _, _, h, g => by rw [show _ = [] from h]; exact g
  | d :: ds, _, _, _, h, g => by
    obtain ⟨v, r, rfl, h1, h2⟩ := h
    exact ⟨v, _, rfl, h1, RepL.append h2 g⟩
theorem RepL.drop : ∀ (n : Nat) {ds : List D} {vs : List V}, RepL p H av ds vs → RepL p H av (ds.drop n) (vs.drop n)
  | 0, _, _, h => h
  | _ + 1, [], _, h => by rw [show _ = [] from h]; exact rfl
  | n + 1, d :: ds, _, h => by
    obtain ⟨v, r, rfl, _, h2⟩ := h
    exact RepL.drop n h2
theorem RepL.take : ∀ (n : Nat) {ds : List D} {vs : List V}, RepL p H av ds vs → RepL p H av (ds.take n) (vs.take n)
  | 0, _, _, _ => rfl
  | _ + 1, [], _, h => by rw [show _ = [] from h]; exact rfl
  | n + 1, d :: ds, _, h => by
    obtain ⟨v, r, rfl, h1, h2⟩ := h
    exact ⟨v, _, rfl, h1, RepL.take n h2⟩
theorem RepL.cut {ds : List D} {vs : List V} (lo hi : Option Int) (h : RepL p H av ds vs) : RepL p H av (cutD ds lo hi) (cutV vs lo hi) := by
  unfold cutD cutV
  rw [h.length]
  exact (h.drop _).take _
theorem RepL.repl : ∀ (k : Nat) {ds : List D} {vs : List V}, RepL p H av ds vs → RepL p H av (List.replicate k ds).flatten (List.replicate k vs).flatten
  | 0, _, _, _ => rfl
  | k + 1, _, _, h => by
    rw [List.replicate_succ, List.replicate_succ, List.flatten_cons, List.flatten_cons]
    exact h.append (RepL.repl k h)
theorem repL_ints : ∀ (xs : List Int), RepL p H av (xs.map D.int) (xs.map V.int)
  | [] => rfl
  | x :: xs => ⟨_, _, rfl, rfl, repL_ints xs⟩
theorem RepL.ints : ∀ {ds : List D} {ns : List Int} {vs : List V}, intsOf ds = some ns → RepL p H av ds vs → vs = ns.map V.int
  | [], ns, vs, e, h => by
    cases e
    exact h
  | d :: ds, ns, vs, e, h => by
    cases d with
    | int i =>
      obtain ⟨v, r, rfl, h1, h2⟩ := h
      have e' : (intsOf ds).map (i :: ·) = some ns := e
      cases q : intsOf ds with
      | none => rw [q] at e'; cases e'
      | some ms =>
        rw [q] at e'
        cases e'
        rw [show v = _ from h1, RepL.ints q h2]
        rfl
    | _ => cases e
theorem intsOf_ints : ∀ xs : List Int, intsOf (xs.map D.int) = some xs
  | [] => rfl
  | x :: xs => by show (intsOf (xs.map D.int)).map (x :: ·) = _; rw [intsOf_ints xs]; rfl
/-! ### dicts -/
theorem RepK.length : ∀ {ds : List (List Int × D)} {vs : List (List Key × V)}, RepK p H av ds vs → vs.length = ds.length
  | [], vs, h => by rw [show vs = [] from h]; rfl
  | (_, d) :: ds, vs, h => by
    obtain ⟨v, r, rfl, _, h2⟩ := h
    simp [RepK.length h2]
theorem inl_inj : ∀ {a b : List Int}, a.map (Sum.inl : Int → Key) = b.map Sum.inl → a = b
  | [], [], _ => rfl
  | [], _ :: _, h => by simp at h
  | _ :: _, [], h => by simp at h
  | x :: a, y :: b, h => by
    simp only [List.map_cons, List.cons.injEq, Sum.inl.injEq] at h
    rw [h.1, inl_inj h.2]
theorem RepK.find (k : List Int) : ∀ {ds : List (List Int × D)} {vs : List (List Key × V)}, RepK p H av ds vs → (∀ d, findD ds k = some d → ∃ v, valV vs (k.map Sum.inl) = some v ∧ Rep p H av d v) ∧ (findD ds k = none → valV vs (k.map Sum.inl) = none)
  | [], vs, h => by
    have h' : vs = [] := h
    subst h'
    refine ⟨fun d e => ?_, fun _ => rfl⟩
    have e' : (none : Option D) = some d := e
    cases e'
  | (c, d) :: ds, vs, h => by
    obtain ⟨v, r, rfl, h1, h2⟩ := h
    have ih := RepK.find k h2
    by_cases e : c = k
    · subst e
      rw [valV_pos rfl]
      have q : findD ((c, d) :: ds) c = some d := by unfold findD; rw [List.find?_cons_of_pos (by simp)]; rfl
      rw [q]
      exact ⟨fun _ e => by cases e; exact ⟨v, rfl, h1⟩, fun e => by cases e⟩
    · rw [valV_neg (fun z => e (inl_inj z))]
      have q : findD ((c, d) :: ds) k = findD ds k := by unfold findD; rw [List.find?_cons_of_neg (by simpa using e)]
      rw [q]
      exact ih
theorem any_key (k : List Int) : ∀ {ds : List (List Int × D)} {vs : List (List Key × V)}, RepK p H av ds vs → (vs.any fun kv => decide (kv.1 = k.map Sum.inl)) = ds.any fun kv => decide (kv.1 = k)
  | [], _, h => by rw [show _ = [] from h]; rfl
  | (c, d) :: ds, vs, h => by
    obtain ⟨v, r, rfl, _, h2⟩ := h
    rw [List.any_cons, List.any_cons, any_key k h2]
    congr 1
    by_cases e : c = k
    · subst e; simp
    · have : ¬ c.map (Sum.inl : Int → Key) = k.map Sum.inl := fun z => e (inl_inj z)
      rw [decide_eq_false this, decide_eq_false e]
theorem RepK.repl (k : List Int) {d : D} {v : V} (hd : Rep p H av d v) : ∀ {ds : List (List Int × D)} {vs : List (List Key × V)}, RepK p H av ds vs →
    RepK p H av (ds.map fun kv => if kv.1 = k then (kv.1, d) else kv) (vs.map fun kv => if kv.1 = k.map Sum.inl then (kv.1, v) else kv)
  | [], _, h => by rw [show _ = [] from h]; exact rfl
  | (c, x) :: ds, vs, h => by
    obtain ⟨w, r, rfl, h1, h2⟩ := h
    rw [List.map_cons, List.map_cons]
    by_cases e : c = k
    · subst e
      rw [if_pos rfl, if_pos rfl]
      exact ⟨v, _, rfl, hd, RepK.repl c hd h2⟩
    · rw [if_neg (show ¬ (c, x).1 = k from e), if_neg (show ¬ ((c.map Sum.inl : List Key), w).1 = k.map Sum.inl from fun z => e (inl_inj z))]
      exact ⟨w, _, rfl, h1, RepK.repl k hd h2⟩
theorem RepK.snoc (k : List Int) {d : D} {v : V} (hd : Rep p H av d v) : ∀ {ds : List (List Int × D)} {vs : List (List Key × V)}, RepK p H av ds vs → RepK p H av (ds ++ [(k, d)]) (vs ++ [(k.map Sum.inl, v)])
  | [], _, h => by rw [show _ = [] from h]; exact ⟨v, [], rfl, hd, rfl⟩
  | (c, x) :: ds, vs, h => by
    obtain ⟨w, r, rfl, h1, h2⟩ := h
    exact ⟨w, _, rfl, h1, RepK.snoc k hd h2⟩
theorem RepK.put (k : List Int) {d : D} {v : V} (hd : Rep p H av d v) {ds : List (List Int × D)} {vs : List (List Key × V)} (h : RepK p H av ds vs) : RepK p H av (putD ds k d) (putK vs (k.map Sum.inl) v) := by
  unfold putD putK
  rw [any_key k h]
  split
  · exact RepK.repl k hd h
  · exact RepK.snoc k hd h
/-- a key's tuple -/
theorem Rep.key {d : D} {v : V} {k : List Int} (e : keyD d = some k) (h : Rep p H av d v) : ∃ b, v = .ref b ∧ H b = some (.tup ((k.map (Sum.inl : Int → Key)).map kV)) := by
  cases d with
  | tup ds =>
    obtain ⟨a, vs, rfl, ha, hr⟩ := h
    have := RepL.ints (show intsOf ds = some k from e) hr
    subst this
    exact ⟨a, rfl, by rw [ha, List.map_map]; rfl⟩
  | _ => cases e
end

/-! ### how far a tree is ours -/
section
variable (p : Pm) (H : Hp) (av : Addr → Prop) (pos : Addr → List Nat → Prop)
/-- the first k layers of cells are ours alone (pos: the place of each in the tree); the rest avoids av -/
def Own : Nat → List Nat → D → V → Prop
  | 0, _, d, v => Rep p H av d v
  | k + 1, q, .lst ds, v => ∃ a vs, v = .ref a ∧ H a = some (.lst vs) ∧ pos a q ∧ vs.length = ds.length ∧ ∀ j d w, ds[j]? = some d → vs[j]? = some w → Own k (q ++ [j]) d w
  | k + 1, q, .dic ds, v => ∃ a ws, v = .ref a ∧ H a = some (.dT ws) ∧ pos a q ∧ ws.length = ds.length ∧
      ∀ (j : Nat) (c : List Int) (d : D) (c' : List Key) (w : V), ds[j]? = some (c, d) → ws[j]? = some (c', w) → c' = c.map Sum.inl ∧ Own k (q ++ [j]) d w
  | _ + 1, _, d, v => Rep p H av d v
end
section
variable {p : Pm} {H H' : Hp} {av av' : Addr → Prop} {pos pos' : Addr → List Nat → Prop}
theorem RepK.of : ∀ {ds : List (List Int × D)} {vs : List (List Key × V)}, vs.length = ds.length →
    (∀ (j : Nat) (c : List Int) (d : D) (c' : List Key) (w : V), ds[j]? = some (c, d) → vs[j]? = some (c', w) → c' = c.map Sum.inl ∧ Rep p H av d w) → RepK p H av ds vs
  | [], vs, e, _ => List.length_eq_zero_iff.mp e
  | (c, d) :: ds, [], e, _ => by simp at e
  | (c, d) :: ds, (c', v) :: vs, e, h => by
    obtain ⟨rfl, h1⟩ := h 0 c d c' v rfl rfl
    exact ⟨v, vs, rfl, h1, RepK.of (by simpa using e) fun j x y z w h1 h2 => h (j + 1) x y z w (by simpa using h1) (by simpa using h2)⟩
theorem Own.rep : ∀ (k : Nat) (q : List Nat) (d : D) (v : V), Same H H' → (∀ a, av' a → av a ∨ H a = none) → (∀ a r, pos a r → q.length ≤ r.length → ¬ av' a) → Own p H av pos k q d v → Rep p H' av' d v
  | 0, q, d, v, s, w, _, h => Rep.keep (Keep.same s) w d h
  | k + 1, q, d, v, s, w, w2, h => by
    cases d with
    | lst ds =>
      obtain ⟨a, vs, e, ha, hp, hl, hc⟩ := h
      exact ⟨a, vs, e, s _ _ ha, w2 a q hp (Nat.le_refl _), RepL.of hl fun j d w' e1 e2 => Own.rep k (q ++ [j]) d w' s w (fun a r h1 h2 => w2 a r h1 (by simp at h2; omega)) (hc j d w' e1 e2)⟩
    | dic ds =>
      obtain ⟨a, vs, e, ha, hp, hl, hc⟩ := h
      exact ⟨a, vs, e, s _ _ ha, w2 a q hp (Nat.le_refl _), RepK.of hl fun j c d c' w' e1 e2 => ⟨(hc j c d c' w' e1 e2).1, Own.rep k (q ++ [j]) d w' s w (fun a r h1 h2 => w2 a r h1 (by simp at h2; omega)) (hc j c d c' w' e1 e2).2⟩⟩
    | _ => exact Rep.keep (Keep.same s) w _ h
theorem Own.same : ∀ (k : Nat) (q : List Nat) (d : D) (v : V), Same H H' → (∀ a, av' a → av a ∨ H a = none) → (∀ a r, pos a r → H a ≠ none → pos' a r) → Own p H av pos k q d v → Own p H' av' pos' k q d v
  | 0, q, d, v, s, w, _, h => Rep.keep (Keep.same s) w d h
  | k + 1, q, d, v, s, w, w1, h => by
    cases d with
    | lst ds =>
      obtain ⟨a, vs, e, ha, hp, hl, hc⟩ := h
      exact ⟨a, vs, e, s _ _ ha, w1 a q hp (by rw [ha]; intro z; cases z), hl, fun j d w' e1 e2 => Own.same k (q ++ [j]) d w' s w w1 (hc j d w' e1 e2)⟩
    | dic ds =>
      obtain ⟨a, vs, e, ha, hp, hl, hc⟩ := h
      exact ⟨a, vs, e, s _ _ ha, w1 a q hp (by rw [ha]; intro z; cases z), hl, fun j c d c' w' e1 e2 => ⟨(hc j c d c' w' e1 e2).1, Own.same k (q ++ [j]) d w' s w w1 (hc j c d c' w' e1 e2).2⟩⟩
    | _ => exact Rep.keep (Keep.same s) w _ h
/-- in another heap, for other places, less deep; what is dropped must not be avoided -/
theorem Own.weak : ∀ (k k' : Nat) (q : List Nat) (d : D) (v : V), k' ≤ k → Same H H' → (∀ a, av' a → av a ∨ H a = none) → (∀ a r, pos a r → r.length < q.length + k' → pos' a r) → (∀ a r, pos a r → q.length + k' ≤ r.length → ¬ av' a) →
    Own p H av pos k q d v → Own p H' av' pos' k' q d v
  | k, 0, q, d, v, _, s, w, _, w2, h => Own.rep k q d v s w w2 h
  | 0, k' + 1, q, d, v, hk, s, w, _, _, h => by omega
  | k + 1, k' + 1, q, d, v, hk, s, w, w1, w2, h => by
    cases d with
    | lst ds =>
      obtain ⟨a, vs, e, ha, hp, hl, hc⟩ := h
      refine ⟨a, vs, e, s _ _ ha, w1 a q hp (by omega), hl, fun j d w' e1 e2 => ?_⟩
      exact Own.weak k k' (q ++ [j]) d w' (by omega) s w (fun a r h1 h2 => w1 a r h1 (by simp at h2; omega)) (fun a r h1 h2 => w2 a r h1 (by simp at h2; omega)) (hc j d w' e1 e2)
    | dic ds =>
      obtain ⟨a, vs, e, ha, hp, hl, hc⟩ := h
      refine ⟨a, vs, e, s _ _ ha, w1 a q hp (by omega), hl, fun j c d c' w' e1 e2 => ?_⟩
      obtain ⟨ec, ho⟩ := hc j c d c' w' e1 e2
      exact ⟨ec, Own.weak k k' (q ++ [j]) d w' (by omega) s w (fun a r h1 h2 => w1 a r h1 (by simp at h2; omega)) (fun a r h1 h2 => w2 a r h1 (by simp at h2; omega)) ho⟩
    | _ => exact Rep.keep (Keep.same s) w _ h
end
end Tr

/-! Whose a value is. -/
namespace Tr
open PySem PySem.Spec PyProof.Rows L2

/-- three sets of cells that a value keeps off: a0 always; a1 what this frame alone holds; a2 besides what stood ahead of the frame -/
structure Avs where
  a0 : Addr → Prop
  a1 : Addr → Prop
  a2 : Addr → Prop
structure Avs.Ok (A : Avs) (H : Hp) : Prop where
  le01 : ∀ a, A.a0 a → A.a1 a
  le12 : ∀ a, A.a1 a → A.a2 a
  dom : ∀ a, A.a2 a → H a ≠ none
def Avs.at (A : Avs) (m : Nat) : Addr → Prop := if m = 0 then A.a0 else if m = 1 then A.a1 else if m = 9 then A.a0 else A.a2
abbrev Plc := Addr → Option (List Nat)
abbrev at_ (tn : Plc) : Addr → List Nat → Prop := fun a r => tn a = some r
abbrev Avs.plus (A : Avs) (tn : Plc) : Avs := ⟨A.a0, A.a1, fun a => A.a2 a ∨ tn a ≠ none⟩
theorem same_nn {H H' : Hp} (s : Same H H') {a : Addr} (h : H a ≠ none) : H' a ≠ none := by
  cases e : H a with
  | none => exact absurd e h
  | some o => rw [s a o e]; intro z; cases z
theorem Avs.Ok.same {A : Avs} {H H' : Hp} (ok : A.Ok H) (s : Same H H') : A.Ok H' := ⟨ok.le01, ok.le12, fun a h => same_nn s (ok.dom a h)⟩
theorem Avs.at0 (A : Avs) : A.at 0 = A.a0 := rfl
theorem Avs.at1 (A : Avs) : A.at 1 = A.a1 := rfl
theorem Avs.at2 (A : Avs) : A.at 2 = A.a2 := rfl
theorem Avs.at9 (A : Avs) : A.at 9 = A.a0 := rfl

section
variable (p : Pm) (H : Hp)
/-- a value in a container -/
def Clo (m : Nat) (A : Avs) (d : D) (v : V) : Prop := Rep p H (A.at m) d v ∧ (m = 9 → d.pure = true)
def CloL (m : Nat) (A : Avs) (ds : List D) (vs : List V) : Prop := RepL p H (A.at m) ds vs ∧ (m = 9 → D.pureL ds = true)
/-- a value of a class -/
def Cl (c : Nat) (A : Avs) (pos : Addr → List Nat → Prop) (d : D) (v : V) : Prop :=
  if c = 9 then d.pure = true ∧ Rep p H A.a0 d v else if c = 0 then Rep p H A.a0 d v else if c = 1 then Rep p H A.a1 d v else Own p H A.a2 pos (c - 2) [] d v
/-- what a value holds -/
def Cn (m : Nat) (A : Avs) : D → V → Prop
  | .lst ds, v => ∃ a vs, v = .ref a ∧ H a = some (.lst vs) ∧ ¬ A.a0 a ∧ CloL p H m A ds vs
  | .tup ds, v => ∃ a vs, v = .ref a ∧ H a = some (.tup vs) ∧ CloL p H m A ds vs
  | .dic ds, v => ∃ a ws, v = .ref a ∧ H a = some (.dT ws) ∧ ¬ A.a0 a ∧ RepK p H (A.at m) ds ws ∧ (m = 9 → ∀ k d, (k, d) ∈ ds → d.pure = true)
  | .obj fs, v => ∃ a dx gs, v = .ref a ∧ H a = some (.ins p.tc dx gs) ∧ ¬ A.a0 a ∧ RepF p H (A.at m) fs gs ∧ m ≠ 9
  | d, v => Rep p H A.a0 d v
end
/-- a value that came since H0 -/
def Val (p : Pm) (c : Nat) (A : Avs) (H0 H : Hp) (d : D) (v : V) : Prop := ∃ tn : Plc, (∀ a, tn a ≠ none → H0 a = none ∧ H a ≠ none) ∧ Cl p H c (A.plus tn) (at_ tn) d v
/-- several values -/
def EL (p : Pm) (m : Nat) (A : Avs) (H0 H : Hp) (ds : List D) (vs : List V) : Prop :=
  ∃ tn : Plc, (∀ a, tn a ≠ none → H0 a = none ∧ H a ≠ none) ∧ vs.length = ds.length ∧ ∀ (j : Nat) (d : D) (v : V), ds[j]? = some d → vs[j]? = some v → Cl p H m (A.plus tn) (fun a r => tn a = some (j :: r)) d v

section
variable {p : Pm} {H H' H0 : Hp} {A : Avs} {pos pos' : Addr → List Nat → Prop}
theorem free_of {H H' : Hp} (s : Same H H') {a : Addr} (h : H' a = none) : H a = none := Same.free s h
theorem own_pure {av av' : Addr → Prop} : ∀ (k : Nat) (q : List Nat) (d : D) (v : V), d.pure = true → Rep p H av' d v → Own p H av pos k q d v
  | 0, q, d, v, e, h => Rep.pure d e h
  | k + 1, q, d, v, e, h => by
    cases d with
    | lst _ => cases (show false = true from e)
    | dic _ => cases (show false = true from e)
    | _ => exact Rep.pure _ e h
theorem Own.shift (pre : List Nat) {av : Addr → Prop} : ∀ (k : Nat) (q : List Nat) (d : D) (v : V), (∀ a r, pos a r → pos' a (pre ++ r)) → Own p H av pos k q d v → Own p H av pos' k (pre ++ q) d v
  | 0, q, d, v, _, h => h
  | k + 1, q, d, v, w, h => by
    cases d with
    | lst ds =>
      obtain ⟨a, vs, e, ha, hp, hl, hc⟩ := h
      refine ⟨a, vs, e, ha, w a q hp, hl, fun j d x e1 e2 => ?_⟩
      have := Own.shift pre k (q ++ [j]) d x w (hc j d x e1 e2)
      rw [← List.append_assoc] at this
      exact this
    | dic ds =>
      obtain ⟨a, vs, e, ha, hp, hl, hc⟩ := h
      refine ⟨a, vs, e, ha, w a q hp, hl, fun j c d c' x e1 e2 => ?_⟩
      have := Own.shift pre k (q ++ [j]) d x w (hc j c d c' x e1 e2).2
      rw [← List.append_assoc] at this
      exact ⟨(hc j c d c' x e1 e2).1, this⟩
    | _ => exact h
/-- less is claimed -/
theorem Cl.weak {c m : Nat} {s2 t2 : Addr → Prop} {d : D} {v : V} (hm : m ≤ c) (hc : c ≤ 9) (s : Same H H') (ok : A.Ok H0) (hs : ∀ a, A.a2 a → s2 a) (ht : ∀ a, t2 a → s2 a ∨ H a = none)
    (fr : ∀ a r, pos a r → ¬ A.a1 a) (p1 : ∀ a r, pos a r → r.length < m - 2 → pos' a r) (p2 : 2 ≤ m → ∀ a r, pos a r → m - 2 ≤ r.length → ¬ t2 a)
    (h : Cl p H c ⟨A.a0, A.a1, s2⟩ pos d v) : Cl p H' m ⟨A.a0, A.a1, t2⟩ pos' d v := by
  have k : Keep A.a0 H H' := Keep.same s
  have fr0 : ∀ a r, pos a r → ¬ A.a0 a := fun a r h z => fr a r h (ok.le01 a z)
  unfold Cl at h ⊢
  by_cases c9 : c = 9
  · rw [if_pos c9] at h
    by_cases m9 : m = 9
    · rw [if_pos m9]; exact ⟨h.1, h.2.same s⟩
    · rw [if_neg m9]
      by_cases m0 : m = 0
      · rw [if_pos m0]; exact h.2.same s
      · rw [if_neg m0]
        by_cases m1 : m = 1
        · rw [if_pos m1]; exact Rep.pure d h.1 (h.2.same s)
        · rw [if_neg m1]; exact own_pure _ _ d v h.1 (h.2.same s)
  · rw [if_neg c9] at h
    have m9 : m ≠ 9 := by omega
    rw [if_neg m9]
    by_cases m0 : m = 0
    · rw [if_pos m0]
      by_cases c0 : c = 0
      · rw [if_pos c0] at h; exact h.same s
      · rw [if_neg c0] at h
        by_cases c1 : c = 1
        · rw [if_pos c1] at h; exact (h.weak fun a z => .inl (ok.le01 a z)).same s
        · rw [if_neg c1] at h
          exact Own.rep _ _ d v s (fun a z => .inl (hs a (ok.le12 a (ok.le01 a z)))) (fun a r h1 _ => fr0 a r h1) h
    · rw [if_neg m0]
      have c0 : c ≠ 0 := by omega
      rw [if_neg c0] at h
      by_cases m1 : m = 1
      · rw [if_pos m1]
        by_cases c1 : c = 1
        · rw [if_pos c1] at h; exact h.same s
        · rw [if_neg c1] at h
          exact Own.rep _ _ d v s (fun a z => .inl (hs a (ok.le12 a z))) (fun a r h1 _ => fr a r h1) h
      · rw [if_neg m1]
        have c1 : c ≠ 1 := by omega
        rw [if_neg c1] at h
        exact Own.weak _ _ _ d v (by omega) s ht (fun a r h1 h2 => p1 a r h1 (by simpa using h2)) (fun a r h1 h2 => p2 (by omega) a r h1 (by simpa using h2)) h

theorem Cl.same' {c : Nat} {A' : Avs} {d : D} {v : V} (s : Same H H') (h0 : ∀ a, A'.a0 a → A.a0 a ∨ H a = none) (h1 : ∀ a, A'.a1 a → A.a1 a ∨ H a = none) (h2 : ∀ a, A'.a2 a → A.a2 a ∨ H a = none) (p1 : ∀ a r, pos a r → H a ≠ none → pos' a r)
    (h : Cl p H c A pos d v) : Cl p H' c A' pos' d v := by
  unfold Cl at h ⊢
  split
  · rename_i e; rw [if_pos e] at h; exact ⟨h.1, Rep.keep (Keep.same s) h0 d h.2⟩
  · rename_i e
    rw [if_neg e] at h
    split
    · rename_i e; rw [if_pos e] at h; exact Rep.keep (Keep.same s) h0 d h
    · rename_i e
      rw [if_neg e] at h
      split
      · rename_i e; rw [if_pos e] at h; exact Rep.keep (Keep.same s) h1 d h
      · rename_i e
        rw [if_neg e] at h
        exact Own.same _ _ d v s h2 p1 h
theorem Cl.same {c : Nat} {s2 t2 : Addr → Prop} {d : D} {v : V} (s : Same H H') (ht : ∀ a, t2 a → s2 a ∨ H a = none) (p1 : ∀ a r, pos a r → pos' a r) (h : Cl p H c ⟨A.a0, A.a1, s2⟩ pos d v) : Cl p H' c ⟨A.a0, A.a1, t2⟩ pos' d v :=
  Cl.same' (A := ⟨A.a0, A.a1, s2⟩) (A' := ⟨A.a0, A.a1, t2⟩) s (fun a z => .inl z) (fun a z => .inl z) ht (fun a r z _ => p1 a r z) h
theorem Val.same {c : Nat} {d : D} {v : V} (s : Same H H') (h : Val p c A H0 H d v) : Val p c A H0 H' d v := by
  obtain ⟨tn, f, h⟩ := h
  exact ⟨tn, fun a z => ⟨(f a z).1, same_nn s (f a z).2⟩, Cl.same s (fun a z => .inl z) (fun a r z => z) h⟩
/-- since an earlier heap -/
theorem Val.since {H1 : Hp} {c : Nat} {d : D} {v : V} (s : Same H1 H0) (h : Val p c A H0 H d v) : Val p c A H1 H d v := by
  obtain ⟨tn, f, h⟩ := h
  exact ⟨tn, fun a z => ⟨free_of s (f a z).1, (f a z).2⟩, h⟩
def cut1 (k : Nat) (tn : Plc) : Plc := fun a => match tn a with | some r => if r.length < k then some r else none | none => none
theorem cut1_some {k : Nat} {tn : Plc} {a : Addr} {r : List Nat} (h : tn a = some r) : cut1 k tn a = if r.length < k then some r else none := by unfold cut1; rw [h]
theorem cut1_nn {k : Nat} {tn : Plc} {a : Addr} (h : cut1 k tn a ≠ none) : tn a ≠ none := fun e => h (by unfold cut1; rw [e])
theorem nn_of {tn : Plc} {a : Addr} {r : List Nat} (h : tn a = some r) : tn a ≠ none := by rw [h]; intro q; cases q
theorem Val.weak {c m : Nat} {d : D} {v : V} (hm : m ≤ c) (hc : c ≤ 9) (ok : A.Ok H0) (h : Val p c A H0 H d v) : Val p m A H0 H d v := by
  obtain ⟨tn, f, h⟩ := h
  refine ⟨cut1 (m - 2) tn, fun a z => f a (cut1_nn z), ?_⟩
  refine Cl.weak hm hc (fun _ _ e => e) ok (fun a z => .inl z) (fun a z => ?_) (fun a r z z' => ?_) (fun a r z l => ?_) (fun _ a r z l z' => ?_) h
  · rcases z with z | z
    · exact .inl (.inl z)
    · exact .inl (.inr (cut1_nn z))
  · exact ok.dom a (ok.le12 a z') (f a (nn_of z)).1
  · show cut1 (m - 2) tn a = some r
    rw [cut1_some z]
    exact if_pos l
  · rcases z' with z' | z'
    · exact ok.dom a z' (f a (nn_of z)).1
    · refine z' ?_
      rw [cut1_some z]
      exact if_neg (by omega)
theorem Val.pure {c : Nat} {av : Addr → Prop} {d : D} {v : V} (e : d.pure = true) (h : Rep p H av d v) : Val p c A H0 H d v := by
  refine ⟨fun _ => none, fun a z => absurd rfl z, ?_⟩
  unfold Cl
  split
  · exact ⟨e, Rep.pure d e h⟩
  · split
    · exact Rep.pure d e h
    · split
      · exact Rep.pure d e h
      · exact own_pure _ _ d v e h
theorem Val.clo {c m : Nat} {d : D} {v : V} (hm : m ≤ c) (hc : c ≤ 9) (h2 : m ≤ 2 ∨ m = 9) (ok : A.Ok H0) (h : Val p c A H0 H d v) : Clo p H m A d v := by
  obtain ⟨tn, f, h⟩ := Val.weak hm hc ok h
  unfold Cl at h
  rcases h2 with h2 | h2
  · have m9 : m ≠ 9 := by omega
    rw [if_neg m9] at h
    refine ⟨?_, fun z => absurd z m9⟩
    unfold Avs.at
    split
    · rename_i e; rw [if_pos e] at h; exact h
    · rename_i e
      rw [if_neg e] at h
      split
      · rename_i e; rw [if_pos e] at h; exact h
      · rename_i e
        rw [if_neg e] at h
        have : m = 2 := by omega
        subst this
        try rw [if_neg (by decide)]
        exact Rep.weak (fun a z => .inl (.inl z)) h
  · subst h2
    exact ⟨h.2, fun _ => h.1⟩
theorem tupC_le (c : Nat) (h : c ≤ 9) : tupC c ≤ c := by unfold tupC; split <;> omega
theorem tupC_two (c : Nat) : tupC c ≤ 2 ∨ tupC c = 9 := by unfold tupC; split <;> omega
theorem Val.clo' {c : Nat} {d : D} {v : V} (hc : c ≤ 9) (ok : A.Ok H0) (h : Val p c A H0 H d v) : Clo p H (tupC c) A d v := h.clo (tupC_le c hc) hc (tupC_two c) ok
theorem Val.rep {c : Nat} {d : D} {v : V} (hc : c ≤ 9) (ok : A.Ok H0) (h : Val p c A H0 H d v) : Rep p H A.a0 d v := (h.clo (m := 0) (Nat.zero_le _) hc (.inl (by decide)) ok).1
theorem Clo.same {m : Nat} {d : D} {v : V} (s : Same H H') (h : Clo p H m A d v) : Clo p H' m A d v := ⟨h.1.same s, h.2⟩
theorem Clo.weak {m n : Nat} {d : D} {v : V} (hn : n ≤ m) (hm : m ≤ 2 ∨ m = 9) (hn2 : n ≤ 2 ∨ n = 9) (ok : A.Ok H0) (h : Clo p H m A d v) : Clo p H n A d v := by
  rcases hm with hm | hm
  · refine ⟨h.1.weak fun a z => .inl ?_, fun e => by omega⟩
    have h0 := ok.le01 a
    have h1 := ok.le12 a
    have cases3 : (m = 0 ∨ m = 1 ∨ m = 2) ∧ (n = 0 ∨ n = 1 ∨ n = 2) := by omega
    rcases cases3 with ⟨rfl | rfl | rfl, rfl | rfl | rfl⟩ <;> first | exact z | omega | exact h0 z | exact h1 z | exact h1 (h0 z)
  · subst hm
    exact ⟨Rep.pure d (h.2 rfl) h.1, fun _ => h.2 rfl⟩
theorem CloL.same {m : Nat} {ds : List D} {vs : List V} (s : Same H H') (h : CloL p H m A ds vs) : CloL p H' m A ds vs := ⟨RepL.keep (Keep.same s) (fun _ z => .inl z) ds h.1, h.2⟩
theorem pureL_get : ∀ {ds : List D} {j : Nat} {d : D}, D.pureL ds = true → ds[j]? = some d → d.pure = true
  | [], _, _, _, e => by simp at e
  | x :: ds, 0, d, q, e => by
    have q' : (x.pure && D.pureL ds) = true := q
    rw [Bool.and_eq_true] at q'
    have e' : x = d := by simpa using e
    rw [← e']; exact q'.1
  | x :: ds, j + 1, d, q, e => by
    have q' : (x.pure && D.pureL ds) = true := q
    rw [Bool.and_eq_true] at q'
    exact pureL_get (j := j) q'.2 (by simpa using e)
theorem pureL_of : ∀ {ds : List D}, (∀ (j : Nat) (d : D), ds[j]? = some d → d.pure = true) → D.pureL ds = true
  | [], _ => rfl
  | x :: ds, h => by
    show (x.pure && D.pureL ds) = true
    rw [h 0 x rfl, pureL_of (ds := ds) fun j d e => h (j + 1) d (by simpa using e)]
    rfl
theorem CloL.get {m : Nat} {ds : List D} {vs : List V} {j : Nat} {d : D} (h : CloL p H m A ds vs) (e : ds[j]? = some d) : ∃ v, vs[j]? = some v ∧ Clo p H m A d v := by
  obtain ⟨v, e1, r⟩ := h.1.get e
  exact ⟨v, e1, r, fun z => pureL_get (h.2 z) e⟩
theorem CloL.of {m : Nat} {ds : List D} {vs : List V} (hl : vs.length = ds.length) (h : ∀ (j : Nat) (d : D) (v : V), ds[j]? = some d → vs[j]? = some v → Clo p H m A d v) : CloL p H m A ds vs := by
  refine ⟨RepL.of hl fun j d v e1 e2 => (h j d v e1 e2).1, fun z => pureL_of fun j d e => ?_⟩
  have hj : j < vs.length := by rw [hl]; exact (List.getElem?_eq_some_iff.mp e).1
  exact (h j d vs[j] e (List.getElem?_eq_getElem hj)).2 z
theorem CloL.weak {m n : Nat} {ds : List D} {vs : List V} (hn : n ≤ m) (hm : m ≤ 2 ∨ m = 9) (hn2 : n ≤ 2 ∨ n = 9) (ok : A.Ok H0) (h : CloL p H m A ds vs) : CloL p H n A ds vs :=
  .of h.1.length fun j d v e1 e2 => by
    obtain ⟨w, e3, c⟩ := h.get e1
    rw [e2] at e3; cases e3
    exact c.weak hn hm hn2 ok
theorem Clo.cn {m : Nat} {d : D} {v : V} (hm : m ≤ 2 ∨ m = 9) (ok : A.Ok H0) (h : Clo p H m A d v) : Cn p H m A d v := by
  have h0 := (h.weak (n := 0) (Nat.zero_le _) hm (.inl (by decide)) ok).1
  cases d with
  | lst ds =>
    obtain ⟨a, vs, e, ha, n0, _⟩ := h0
    obtain ⟨a', vs', e', ha', n, hr⟩ := h.1
    rw [e] at e'; cases e'
    rw [ha] at ha'; cases ha'
    exact ⟨a, vs, e, ha, n0, hr, fun z => by cases (show false = true from h.2 z)⟩
  | tup ds =>
    obtain ⟨a', vs', e', ha', hr⟩ := h.1
    exact ⟨a', vs', e', ha', hr, fun z => h.2 z⟩
  | dic ds =>
    obtain ⟨a, vs, e, ha, n0, _⟩ := h0
    obtain ⟨a', vs', e', ha', n, hr⟩ := h.1
    rw [e] at e'; cases e'
    rw [ha] at ha'; cases ha'
    exact ⟨a, vs, e, ha, n0, hr, fun z => by cases (show false = true from h.2 z)⟩
  | obj fs =>
    obtain ⟨a, dx, gs, e, ha, n0, _⟩ := h0
    obtain ⟨a', dx', gs', e', ha', n, hr⟩ := h.1
    rw [e] at e'; cases e'
    rw [ha] at ha'; cases ha'
    exact ⟨a, dx, gs, e, ha, n0, hr, fun z => by cases (show false = true from h.2 z)⟩
  | _ => exact h0
theorem Cn.same {m : Nat} {d : D} {v : V} (s : Same H H') (h : Cn p H m A d v) : Cn p H' m A d v := by
  cases d with
  | lst ds =>
    obtain ⟨a, vs, e, ha, n, hr⟩ := h
    exact ⟨a, vs, e, s _ _ ha, n, hr.same s⟩
  | tup ds =>
    obtain ⟨a, vs, e, ha, hr⟩ := h
    exact ⟨a, vs, e, s _ _ ha, hr.same s⟩
  | dic ds =>
    obtain ⟨a, vs, e, ha, n, hr, q⟩ := h
    exact ⟨a, vs, e, s _ _ ha, n, RepK.keep (Keep.same s) (fun _ z => .inl z) ds hr, q⟩
  | obj fs =>
    obtain ⟨a, dx, gs, e, ha, n, hr, q⟩ := h
    exact ⟨a, dx, gs, e, s _ _ ha, n, RepF.keep (Keep.same s) (fun _ z => .inl z) fs hr, q⟩
  | _ => exact Rep.same s h
theorem EL.same {m : Nat} {ds : List D} {vs : List V} (s : Same H H') (h : EL p m A H0 H ds vs) : EL p m A H0 H' ds vs := by
  obtain ⟨tn, f, hl, h⟩ := h
  exact ⟨tn, fun a z => ⟨(f a z).1, same_nn s (f a z).2⟩, hl, fun j d v e1 e2 => Cl.same s (fun a z => .inl z) (fun a r z => z) (h j d v e1 e2)⟩
theorem EL.since {H1 : Hp} {m : Nat} {ds : List D} {vs : List V} (s : Same H1 H0) (h : EL p m A H0 H ds vs) : EL p m A H1 H ds vs := by
  obtain ⟨tn, f, hl, h⟩ := h
  exact ⟨tn, fun a z => ⟨free_of s (f a z).1, (f a z).2⟩, hl, h⟩
theorem EL.nil {m : Nat} : EL p m A H0 H [] [] := ⟨fun _ => none, fun a z => absurd rfl z, rfl, fun j d v e _ => by simp at e⟩
/-- the places in a list: of its first item, of the others -/
def consT (k : Nat) (tn un : Plc) : Plc := fun a => match tn a with
  | some r => if r.length < k then some (0 :: r) else none
  | none => match un a with
    | some (j :: r) => if r.length < k then some ((j + 1) :: r) else none
    | _ => none
theorem consT_l {k : Nat} {tn un : Plc} {a : Addr} {r : List Nat} (h : tn a = some r) : consT k tn un a = if r.length < k then some (0 :: r) else none := by unfold consT; rw [h]
theorem consT_r {k : Nat} {tn un : Plc} {a : Addr} {j : Nat} {r : List Nat} (n : tn a = none) (h : un a = some (j :: r)) : consT k tn un a = if r.length < k then some ((j + 1) :: r) else none := by unfold consT; rw [n, h]
theorem consT_nn {k : Nat} {tn un : Plc} {a : Addr} (h : consT k tn un a ≠ none) : tn a ≠ none ∨ un a ≠ none := by
  unfold consT at h
  cases e : tn a with
  | some r => exact .inl (by intro q; cases q)
  | none =>
    cases e2 : un a with
    | some r => exact .inr (by intro q; cases q)
    | none => rw [e, e2] at h; exact absurd rfl h
/-- .. those of less than k layers below -/
def cutT (k : Nat) (tn : Plc) : Plc := fun a => match tn a with
  | some (j :: r) => if r.length < k then some (j :: r) else none
  | _ => none
theorem cutT_some {k : Nat} {tn : Plc} {a : Addr} {j : Nat} {r : List Nat} (h : tn a = some (j :: r)) : cutT k tn a = if r.length < k then some (j :: r) else none := by unfold cutT; rw [h]
theorem cutT_nn {k : Nat} {tn : Plc} {a : Addr} (h : cutT k tn a ≠ none) : tn a ≠ none := fun e => h (by unfold cutT; rw [e])
/-- one more, ahead -/
theorem EL.cons {H1 : Hp} {c m : Nat} {d : D} {v : V} {ds : List D} {vs : List V} {tn : Plc} (hc : c ≤ 9) (hm : m ≤ 9) (ok : A.Ok H0) (s0 : Same H0 H1) (s1 : Same H1 H) (f : ∀ a, tn a ≠ none → H0 a = none ∧ H1 a ≠ none)
    (h : Cl p H1 c (A.plus tn) (at_ tn) d v) (t : EL p m (A.plus tn) H1 H ds vs) : EL p (min c m) A H0 H (d :: ds) (v :: vs) := by
  obtain ⟨un, g, hl, t⟩ := t
  have dis : ∀ {a j r}, un a = some (j :: r) → tn a = none := fun {a j r} z => by
    cases e : tn a with
    | none => rfl
    | some r => exact absurd (g a (nn_of z)).1 (f a (nn_of e)).2
  refine ⟨consT (min c m - 2) tn un, fun a z => ?_, by simp [hl], fun j d' v' e1 e2 => ?_⟩
  · rcases consT_nn z with z | z
    · exact ⟨(f a z).1, same_nn s1 (f a z).2⟩
    · exact ⟨free_of s0 (g a z).1, (g a z).2⟩
  · cases j with
    | zero =>
      have ed : d = d' := by simpa using e1
      have ev : v = v' := by simpa using e2
      subst ed ev
      refine Cl.weak (Nat.min_le_left c m) hc s1 ok (fun a z => .inl z) (fun a z => ?_) (fun a r z z' => ?_) (fun a r z l => ?_) (fun _ a r z l z' => ?_) h
      · rcases z with z | z
        · exact .inl (.inl z)
        · rcases consT_nn z with z | z
          · exact .inl (.inr z)
          · exact .inr (g a z).1
      · exact ok.dom a (ok.le12 a z') (f a (nn_of z)).1
      · rw [consT_l z]; exact if_pos l
      · rcases z' with z' | z'
        · exact ok.dom a z' (f a (nn_of z)).1
        · exact z' (by rw [consT_l z]; exact if_neg (by omega))
    | succ j =>
      have e1' : ds[j]? = some d' := by simpa using e1
      have e2' : vs[j]? = some v' := by simpa using e2
      refine Cl.weak (H0 := H0) (Nat.min_le_right c m) hm (fun _ _ e => e) ok (fun a z => .inl (.inl z)) (fun a z => ?_) (fun a r z z' => ?_) (fun a r z l => ?_) (fun _ a r z l z' => ?_) (t j d' v' e1' e2')
      · rcases z with z | z
        · exact .inl (.inl (.inl z))
        · rcases consT_nn z with z | z
          · exact .inl (.inl (.inr z))
          · exact .inl (.inr z)
      · exact (ok.same s0).dom a (ok.le12 a z') (g a (nn_of z)).1
      · rw [consT_r (dis z) z]; exact if_pos l
      · rcases z' with z' | z'
        · exact (ok.same s0).dom a z' (g a (nn_of z)).1
        · exact z' (by rw [consT_r (dis z) z]; exact if_neg (by omega))
theorem EL.weak {m n : Nat} {ds : List D} {vs : List V} (hn : n ≤ m) (hm : m ≤ 9) (ok : A.Ok H0) (h : EL p m A H0 H ds vs) : EL p n A H0 H ds vs := by
  obtain ⟨tn, f, hl, h⟩ := h
  refine ⟨cutT (n - 2) tn, fun a z => f a (cutT_nn z), hl, fun j d v e1 e2 => ?_⟩
  refine Cl.weak (H0 := H0) hn hm (fun _ _ e => e) ok (fun a z => .inl z) (fun a z => ?_) (fun a r z z' => ?_) (fun a r z l => ?_) (fun _ a r z l z' => ?_) (h j d v e1 e2)
  · rcases z with z | z
    · exact .inl (.inl z)
    · exact .inl (.inr (cutT_nn z))
  · exact ok.dom a (ok.le12 a z') (f a (nn_of z)).1
  · rw [cutT_some z]; exact if_pos l
  · rcases z' with z' | z'
    · exact ok.dom a z' (f a (nn_of z)).1
    · exact z' (by rw [cutT_some z]; exact if_neg (by omega))
theorem EL.get {m : Nat} {ds : List D} {vs : List V} {j : Nat} {d : D} {v : V} (h : EL p m A H0 H ds vs) (ok : A.Ok H0) (hm : m ≤ 9) (e1 : ds[j]? = some d) (e2 : vs[j]? = some v) : Clo p H (tupC m) A d v := by
  have h := EL.weak (tupC_le m hm) hm ok h
  obtain ⟨tn, f, hl, h⟩ := h
  have h := h j d v e1 e2
  have t2 := tupC_two m
  generalize tupC m = n at h t2
  unfold Cl at h
  rcases t2 with t2 | t2
  · have n9 : n ≠ 9 := by omega
    rw [if_neg n9] at h
    refine ⟨?_, fun z => absurd z n9⟩
    unfold Avs.at
    split
    · rename_i e; rw [if_pos e] at h; exact h
    · rename_i e
      rw [if_neg e] at h
      split
      · rename_i e; rw [if_pos e] at h; exact h
      · rename_i e
        rw [if_neg e] at h
        have : n = 2 := by omega
        subst this
        try rw [if_neg (by decide)]
        exact Rep.weak (fun a z => .inl (.inl z)) h
  · subst t2
    exact ⟨h.2, fun _ => h.1⟩
theorem EL.cloL {m : Nat} {ds : List D} {vs : List V} (h : EL p m A H0 H ds vs) (ok : A.Ok H0) (hm : m ≤ 9) : CloL p H (tupC m) A ds vs :=
  .of (let ⟨_, _, hl, _⟩ := h; hl) fun j d v e1 e2 => h.get ok hm e1 e2
theorem same_upd {H : Hp} {a : Addr} {o : HO} (h : H a = none) : Same H (upd H a o) := fun b x e => by rw [upd_ne (ne_of_none e h)]; exact e
/-- a new list at q, of values that keep off q -/
theorem Val.lst0 {m : Nat} {ds : List D} {vs : List V} {q : Addr} {tn : Plc} (hm : m ≤ 9) (ok : A.Ok H0) (hq : H q = some (.lst vs)) (hq0 : H0 q = none) (f : ∀ a, tn a ≠ none → H0 a = none ∧ H a ≠ none ∧ a ≠ q) (hl : vs.length = ds.length)
    (h : ∀ (j : Nat) (d : D) (v : V), ds[j]? = some d → vs[j]? = some v → Cl p H m ⟨A.a0, A.a1, fun a => A.a2 a ∨ a = q ∨ tn a ≠ none⟩ (fun a r => tn a = some (j :: r)) d v) : Val p (dispC m) A H0 H (.lst ds) (.ref q) := by
  have n2 : ¬ A.a2 q := fun z => ok.dom q z hq0
  have n1 : ¬ A.a1 q := fun z => n2 (ok.le12 q z)
  have n0 : ¬ A.a0 q := fun z => n1 (ok.le01 q z)
  have okf : ∀ a j r, tn a = some (j :: r) → ¬ A.a1 a := fun a j r z z' => ok.dom a (ok.le12 a z') (f a (nn_of z)).1
  -- as contents
  have as : ∀ n, n ≤ m → (n ≤ 2 ∨ n = 9) → RepL p H (if n = 2 then fun a => A.a2 a ∨ a = q else A.at n) ds vs := fun n hn hn2 => RepL.of hl fun j d v e1 e2 => by
    have h' := Cl.weak (H0 := H0) (t2 := fun a => A.a2 a ∨ a = q) (pos' := fun a r => tn a = some (j :: r)) hn hm (fun _ _ e => e) ok (fun a z => .inl z) (fun a z => .inl (z.elim .inl fun z => .inr (.inl z))) (fun a r z => okf a j r z) (fun a r z l => z)
      (fun _ a r z l z' => z'.elim (fun z' => ok.dom a z' (f a (nn_of z)).1) fun z' => (f a (nn_of z)).2.2 z') (h j d v e1 e2)
    unfold Cl at h'
    rcases hn2 with hn2 | hn2
    · rw [if_neg (by omega)] at h'
      unfold Avs.at
      split
      · rename_i e; subst e; exact h'
      · rename_i e
        split
        · rename_i e; rw [if_pos e] at h'; exact h'
        · rename_i e
          rw [if_neg e] at h'
          split
          · rename_i e; rw [if_pos e] at h'; exact h'
          · omega
    · subst hn2
      exact h'.2
  have dc : dispC m = if m = 9 then 8 else if m = 2 then 3 else if m ≤ 1 then m else if m ≤ 7 then m + 1 else 8 := rfl
  by_cases m0 : m = 0
  · subst m0
    refine ⟨fun _ => none, fun a z => absurd rfl z, ?_⟩
    exact ⟨q, vs, rfl, hq, n0, as 0 (Nat.le_refl _) (.inl (by decide))⟩
  by_cases m1 : m = 1
  · subst m1
    refine ⟨fun _ => none, fun a z => absurd rfl z, ?_⟩
    exact ⟨q, vs, rfl, hq, n1, as 1 (Nat.le_refl _) (.inl (by decide))⟩
  -- ours
  obtain ⟨k, ek, hk, hkm⟩ : ∃ k, dispC m = k + 3 ∧ k + 3 ≤ 8 ∧ (m = 9 ∨ k + 2 ≤ m) := by
    refine ⟨dispC m - 3, ?_, ?_, ?_⟩ <;> (rw [dc]; repeat' split) <;> omega
  refine ⟨fun a => if a = q then some [] else cutT k tn a, fun a z => ?_, ?_⟩
  · by_cases e : a = q
    · subst e; exact ⟨hq0, by rw [hq]; intro z; cases z⟩
    · simp only [if_neg e] at z
      exact ⟨(f a (cutT_nn z)).1, (f a (cutT_nn z)).2.1⟩
  · unfold Cl
    rw [if_neg (by omega), if_neg (by omega), if_neg (by omega), ek]
    show Own p H _ _ (k + 1) [] (.lst ds) (.ref q)
    refine ⟨q, vs, rfl, hq, if_pos rfl, hl, fun j d v e1 e2 => ?_⟩
    have h' := h j d v e1 e2
    have av : ∀ a, (A.a2 a ∨ (if a = q then some [] else cutT k tn a) ≠ none) → A.a2 a ∨ a = q ∨ tn a ≠ none := fun a z => by
      rcases z with z | z
      · exact .inl z
      · by_cases e : a = q
        · exact .inr (.inl e)
        · rw [if_neg e] at z
          exact .inr (.inr (cutT_nn z))
    have posw : ∀ a r, tn a = some (j :: r) → r.length < k → (if a = q then some [] else cutT k tn a) = some (j :: r) := fun a r z l => by
      rw [if_neg (f a (nn_of z)).2.2, cutT_some z]
      exact if_pos l
    have h3 : Own p H (fun a => A.a2 a ∨ (if a = q then some [] else cutT k tn a) ≠ none) (fun a r => tn a = some (j :: r) ∧ r.length < k) k [] d v := by
      by_cases m9 : m = 9
      · subst m9
        unfold Cl at h'
        rw [if_pos rfl] at h'
        exact own_pure _ _ d v h'.1 h'.2
      · unfold Cl at h'
        rw [if_neg m9, if_neg m0, if_neg m1] at h'
        refine Own.weak _ _ _ d v (by omega) (fun _ _ e => e) (fun a z => .inl (av a z)) (fun a r z l => ⟨z, by simpa using l⟩) (fun a r z l z' => ?_) h'
        have l' : k ≤ r.length := by simpa using l
        rcases z' with z' | z'
        · exact ok.dom a z' (f a (nn_of z)).1
        · refine z' ?_
          rw [if_neg (f a (nn_of z)).2.2, cutT_some z]
          exact if_neg (by omega)
    exact Own.shift (pos' := at_ fun a => if a = q then some [] else cutT k tn a) [j] k [] d v (fun a r z => posw a r z.1 z.2) h3
/-- a list just made -/
theorem Val.lst {m : Nat} {ds : List D} {vs : List V} {q : Addr} (hm : m ≤ 9) (ok : A.Ok H0) (s : Same H0 H) (hq : H q = none) (h : EL p m A H0 H ds vs) : Val p (dispC m) A H0 (upd H q (.lst vs)) (.lst ds) (.ref q) := by
  obtain ⟨tn, f, hl, h⟩ := h
  have s' : Same H (upd H q (.lst vs)) := same_upd hq
  refine Val.lst0 hm ok upd_same (free_of s hq) (tn := tn) (fun a z => ⟨(f a z).1, same_nn s' (f a z).2, fun e => (f a z).2 (by rw [e]; exact hq)⟩) hl fun j d v e1 e2 => ?_
  refine Cl.same s' (fun a z => ?_) (fun a r z => z) (h j d v e1 e2)
  rcases z with z | z | z
  · exact .inl (.inl z)
  · exact .inr (by rw [z]; exact hq)
  · exact .inl (.inr z)
/-- a tuple just made -/
theorem Val.tup {m : Nat} {ds : List D} {vs : List V} {q : Addr} (hm : m ≤ 2 ∨ m = 9) (ok : A.Ok H0) (s : Same H0 H) (hq : H q = none) (h : CloL p H m A ds vs) : Val p m A H0 (upd H q (.tup vs)) (.tup ds) (.ref q) := by
  have h' := CloL.same (same_upd (o := .tup vs) hq) h
  refine ⟨fun _ => none, fun a z => absurd rfl z, ?_⟩
  unfold Cl
  split
  · rename_i e
    subst e
    exact ⟨h'.2 rfl, q, vs, rfl, upd_same, h'.1⟩
  · split
    · rename_i e; subst e; exact ⟨q, vs, rfl, upd_same, h'.1⟩
    · split
      · rename_i e; subst e; exact ⟨q, vs, rfl, upd_same, h'.1⟩
      · have : m = 2 := by omega
        subst this
        exact Rep.weak (fun a z => .inl (z.elim id fun z => absurd rfl z)) (show Rep p _ A.a2 (.tup ds) (.ref q) from ⟨q, vs, rfl, upd_same, h'.1⟩)
/-- what stands already -/
theorem Clo.val {m : Nat} {d : D} {v : V} (hm : m ≤ 2 ∨ m = 9) (h : Clo p H m A d v) : Val p m A H0 H d v := by
  refine ⟨fun _ => none, fun a z => absurd rfl z, ?_⟩
  unfold Cl
  split
  · rename_i e; subst e; exact ⟨h.2 rfl, h.1⟩
  · split
    · rename_i e; subst e; exact h.1
    · split
      · rename_i e; subst e; exact h.1
      · have : m = 2 := by omega
        subst this
        exact Rep.weak (fun a z => .inl (z.elim id fun z => absurd rfl z)) (show Rep p H A.a2 d v from h.1)
end
end Tr

/-! The check: a piece of the program's syntax is a term of the language. -/
namespace Tr
open PySem PySem.Spec PyProof.Rows L2

/-! ### shapes -/
def asConst : Expr → Option Const | .Constant c _ _ => some c | _ => none
def asName : Expr → Option Str | .Name x _ => some x | _ => none
def asBin : Expr → Option (Expr × Operator × Expr) | .BinOp l o r _ => some (l, o, r) | _ => none
def asUn : Expr → Option (UnaryOp × Expr) | .UnaryOp o x _ => some (o, x) | _ => none
def asCmp : Expr → Option (Expr × CmpOp × Expr) | .Compare l [o] [r] _ => some (l, o, r) | _ => none
def asBool : Expr → Option (BoolOp × Expr × Expr) | .BoolOp o [a, b] _ => some (o, a, b) | .BoolOp o (a :: b :: c :: r) pos => some (o, a, .BoolOp o (b :: c :: r) pos) | _ => none
def asIf : Expr → Option (Expr × Expr × Expr) | .IfExp c a b _ => some (c, a, b) | _ => none
def asSub : Expr → Option (Expr × Expr) | .Subscript _ (.Slice ..) _ => none | .Subscript o i _ => some (o, i) | _ => none
def asSl : Expr → Option (Expr × Option Expr × Option Expr) | .Subscript o (.Slice l h none _) _ => some (o, l, h) | _ => none
def asTup : Expr → Option (List Expr) | .Tuple xs _ _ => some xs | _ => none
def asLst : Expr → Option (List Expr) | .List xs _ => some xs | _ => none
def asCall : Expr → Option (Str × Expr × List Expr) | .Call (.Name x _) (a :: as) [] _ => some (x, a, as) | _ => none
def asMeth : Expr → Option (Expr × Str × List Expr) | .Call (.Attribute o m apos) as [] cpos => if (apos.endLine == cpos.line) = true then some (o, m, as) else none | _ => none
def asAttr : Expr → Option (Expr × Str) | .Attribute o n _ => some (o, n) | _ => none
def asComp : Expr → Option (Expr × Expr × Expr × List Expr × Scope) | .ListComp elt [⟨tg, iter, ifs, 0⟩] sc _ => some (elt, tg, iter, ifs, sc) | _ => none
theorem asConst_inv {x : Expr} {c : Const} (h : asConst x = some c) : ∃ k pos, x = .Constant c k pos := by cases x <;> simp [asConst] at h <;> exact ⟨_, _, by rw [h]⟩
theorem asName_inv {x : Expr} {c : Str} (h : asName x = some c) : ∃ pos, x = .Name c pos := by cases x <;> simp [asName] at h <;> exact ⟨_, by rw [h]⟩
theorem asBin_inv {x l r : Expr} {o : Operator} (h : asBin x = some (l, o, r)) : ∃ pos, x = .BinOp l o r pos := by cases x <;> simp [asBin] at h <;> exact ⟨_, by rw [h.1, h.2.1, h.2.2]⟩
theorem asUn_inv {x l : Expr} {o : UnaryOp} (h : asUn x = some (o, l)) : ∃ pos, x = .UnaryOp o l pos := by cases x <;> simp [asUn] at h <;> exact ⟨_, by rw [h.1, h.2]⟩
theorem asCmp_inv {x l r : Expr} {o : CmpOp} (h : asCmp x = some (l, o, r)) : ∃ pos, x = .Compare l [o] [r] pos := by
  cases x <;> try (simp [asCmp] at h; done)
  rename_i a ops cs pos
  match ops, cs, h with
  | [o'], [r'], h =>
    simp [asCmp] at h
    exact ⟨pos, by rw [h.1, h.2.1, h.2.2]⟩
theorem asBool_inv {x l r : Expr} {o : BoolOp} (h : asBool x = some (o, l, r)) : (∃ pos, x = .BoolOp o [l, r] pos) ∨ ∃ b c q pos, x = .BoolOp o (l :: b :: c :: q) pos ∧ r = .BoolOp o (b :: c :: q) pos := by
  cases x <;> try (simp [asBool] at h; done)
  rename_i op vs pos
  match vs, h with
  | [a, b], h =>
    simp [asBool] at h
    exact .inl ⟨pos, by rw [h.1, h.2.1, h.2.2]⟩
  | a :: b :: c :: q, h =>
    simp [asBool] at h
    obtain ⟨h1, h2, h3⟩ := h
    subst h1 h2
    exact .inr ⟨b, c, q, pos, rfl, h3.symm⟩
theorem asIf_inv {x c a b : Expr} (h : asIf x = some (c, a, b)) : ∃ pos, x = .IfExp c a b pos := by cases x <;> simp [asIf] at h <;> exact ⟨_, by rw [h.1, h.2.1, h.2.2]⟩
def notSl : Expr → Bool | .Slice .. => false | _ => true
theorem asSub_inv {x o i : Expr} (h : asSub x = some (o, i)) : (∃ pos, x = .Subscript o i pos) ∧ notSl i = true := by
  cases x <;> try (simp [asSub] at h; done)
  rename_i v s pos
  cases s <;> simp [asSub] at h <;> (obtain ⟨rfl, rfl⟩ := h; exact ⟨⟨pos, rfl⟩, rfl⟩)
theorem asSl_inv {x o : Expr} {l u : Option Expr} (h : asSl x = some (o, l, u)) : ∃ p pos, x = .Subscript o (.Slice l u none p) pos := by
  cases x <;> try (simp [asSl] at h; done)
  rename_i v s pos
  cases s <;> try (simp [asSl] at h; done)
  rename_i a b c p
  cases c <;> simp [asSl] at h
  obtain ⟨rfl, rfl, rfl⟩ := h
  exact ⟨p, pos, rfl⟩
theorem asTup_inv {x : Expr} {xs : List Expr} (h : asTup x = some xs) : ∃ k pos, x = .Tuple xs k pos := by cases x <;> simp [asTup] at h <;> exact ⟨_, _, by rw [h]⟩
theorem asLst_inv {x : Expr} {xs : List Expr} (h : asLst x = some xs) : ∃ pos, x = .List xs pos := by cases x <;> simp [asLst] at h <;> exact ⟨_, by rw [h]⟩
theorem asCall_inv {x a : Expr} {f : Str} {as : List Expr} (h : asCall x = some (f, a, as)) : ∃ q pos, x = .Call (.Name f q) (a :: as) [] pos := by
  cases x <;> try (simp [asCall] at h; done)
  rename_i g args kws pos
  cases g <;> try (simp [asCall] at h; done)
  rename_i id q
  cases args <;> cases kws <;> simp [asCall] at h
  obtain ⟨rfl, rfl, rfl⟩ := h
  exact ⟨q, pos, rfl⟩
theorem asAttr_inv {x o : Expr} {n : Str} (h : asAttr x = some (o, n)) : ∃ pos, x = .Attribute o n pos := by cases x <;> simp [asAttr] at h <;> exact ⟨_, by rw [h.1, h.2]⟩
theorem asMeth_inv {x o : Expr} {m : Str} {as : List Expr} (h : asMeth x = some (o, m, as)) : ∃ apos cpos, x = .Call (.Attribute o m apos) as [] cpos ∧ (apos.endLine == cpos.line) = true := by
  cases x <;> try (simp [asMeth] at h; done)
  rename_i g args kws pos
  cases g <;> try (simp [asMeth] at h; done)
  rename_i o' m' ap
  cases kws <;> try (simp [asMeth] at h; done)
  by_cases e : (ap.endLine == pos.line) = true
  · simp only [asMeth] at h
    rw [if_pos e] at h
    cases h
    exact ⟨ap, pos, rfl, e⟩
  · simp only [asMeth] at h
    rw [if_neg e] at h
    cases h

theorem asComp_inv {x elt tg iter : Expr} {ifs : List Expr} {sc : Scope} (h : asComp x = some (elt, tg, iter, ifs, sc)) : ∃ pos, x = .ListComp elt [⟨tg, iter, ifs, 0⟩] sc pos := by
  cases x <;> try (simp [asComp] at h; done)
  rename_i e gens s pos
  match gens, h with
  | ⟨t, i, fs, k⟩ :: g :: r, h =>
    exfalso
    unfold asComp at h
    split at h
    · rename_i heq; simp at heq
    · cases h
  | [⟨t, i, fs, k⟩], h =>
    by_cases hk : k = 0
    · subst hk
      simp [asComp] at h
      obtain ⟨rfl, rfl, rfl, rfl, rfl⟩ := h
      exact ⟨pos, rfl⟩
    · exfalso
      unfold asComp at h
      split at h
      · rename_i heq
        simp at heq
        exact hk heq.2.1.2.2.2
      · cases h

def visB (sc : Scope) (x : Str) : Bool := match sc.names.lookup x with | some .local => true | some .cell => true | some .free => true | _ => false
def locB (sc : Scope) (x : Str) : Bool := match sc.names.lookup x with | some .local => true | some .cell => true | _ => false
def loc1B (sc : Scope) (x : Str) : Bool := match sc.names.lookup x with | some .local => true | _ => false
def glB (sc : Scope) (x : Str) : Bool := match sc.names.lookup x with | some .globalImplicit => true | _ => false
def nmB (x : Str) : Bool := !(x == ("__debug__" : Str)) && !(x == ("__classdict__" : Str))
def AOp.op : AOp → Operator | .add => .Add | .sub => .Sub | .mul => .Mult | .fdiv => .FloorDiv | .mod => .Mod | .pow => .Pow
def COp.op : COp → CmpOp | .lt => .Lt | .le => .LtE | .gt => .Gt | .ge => .GtE
def Ty.nm : Ty → Str | .int => "int" | .bool => "bool" | .tuple => "tuple" | .list => "list" | .dict => "dict" | .str => "str"
/-- the names of the targets of a loop -/
def tgNames : List Nat → Expr → Option (List Str)
  | [_], .Name x _ => some [x]
  | [_, _], .Tuple [.Name x _, .Name y _] _ _ => some [x, y]
  | _, _ => none

/-- pairs go to two names -/
def tgIt : It → List Nat → Bool
  | .enum _, [_, _] => true
  | .enum _, _ => false
  | .zip _ _, [_, _] => true
  | .zip _ _, _ => false
  | .zipT _ _, [_, _] => true
  | .zipT _ _, _ => false
  | _, _ => true
/-- what the text's names are: defs, methods of the own class, its maker; exception classes, their fields, those that are raised -/
structure Nm where
  g : Nat → Option Str
  m : Nat → Option Str
  i : Nat → Option Str
  x : List Str
  xf : List (List Str)
  rs : List Nat
  tb : Bool
  k : List (Str × Int)
def isNm : Expr → Bool | .Name _ _ => true | _ => false
def clsNs (T : Nm) (sc : Scope) : List Nat → List Expr → Bool
  | [], [] => true
  | c :: cs, .Name n _ :: es => decide (T.x[c]? = some n) && glB sc n && nmB n && decide (c ≠ 0) && clsNs T sc cs es
  | _, _ => false
def chkCls (T : Nm) (cs : List Nat) (tp : Bool) (sc : Scope) (z : Expr) : Bool := match tp, z with
  | true, .Tuple es _ _ => decide (cs.length ≤ 1000) && clsNs T sc cs es
  | false, .Name n q => decide (cs.length = 1) && clsNs T sc cs [.Name n q]
  | _, _ => false
def chkVE (sc : Scope) (z : Expr) : Bool := match z with | .Name n _ => decide (n = "ValueError") && glB sc n | _ => false
section
variable (T : Nm) (N : List Str)
mutual
def chkE : E → Scope → Expr → Bool
  | .int i, _, x => match asConst x with | some (.int j) => decide (i = j) | _ => false
  | .bl b, _, x => match asConst x with | some (.bool c) => decide (b = c) | _ => false
  | .non, _, x => match asConst x with | some .none => true | _ => false
  | .str s, _, x => match asConst x with | some (.str t) => decide (s = t) | _ => false
  | .v i, sc, x => match asName x with | some n => decide (N[i]? = some n) && visB sc n && nmB n | none => false
  | .pur e, sc, x => chkE e sc x
  | .pin e, sc, x => chkE e sc x
  | .ar op a b, sc, x => match asBin x with | some (l, o, r) => decide (o = op.op) && chkE a sc l && chkE b sc r | none => false
  | .neg a, sc, x => match asUn x with | some (.USub, y) => chkE a sc y | _ => false
  | .cmp op a b, sc, x => match asCmp x with | some (l, o, r) => decide (o = op.op) && chkE a sc l && chkE b sc r | none => false
  | .eq a b, sc, x => match asCmp x with | some (l, .Eq, r) => chkE a sc l && chkE b sc r | _ => false
  | .ne a b, sc, x => match asCmp x with | some (l, .NotEq, r) => chkE a sc l && chkE b sc r | _ => false
  | .eqv a b, sc, x => match asCmp x with | some (l, .Eq, r) => chkE a sc l && chkE b sc r | _ => false
  | .nev a b, sc, x => match asCmp x with | some (l, .NotEq, r) => chkE a sc l && chkE b sc r | _ => false
  | .isN a, sc, x => match asCmp x with | some (l, .Is, r) => chkE a sc l && (match asConst r with | some .none => true | _ => false) | _ => false
  | .notN a, sc, x => match asCmp x with | some (l, .IsNot, r) => chkE a sc l && (match asConst r with | some .none => true | _ => false) | _ => false
  | .isB a b, sc, x => match asCmp x with | some (l, .Is, r) => chkE a sc l && chkE b sc r | _ => false
  | .inn a b, sc, x => match asCmp x with | some (l, .In, r) => chkE a sc l && chkE b sc r | _ => false
  | .notin a b, sc, x => match asCmp x with | some (l, .NotIn, r) => chkE a sc l && chkE b sc r | _ => false
  | .not a, sc, x => match asUn x with | some (.Not, y) => chkE a sc y | _ => false
  | .and a b, sc, x => match asBool x with | some (.And, l, r) => chkE a sc l && chkE b sc r | _ => false
  | .or a b, sc, x => match asBool x with | some (.Or, l, r) => chkE a sc l && chkE b sc r | _ => false
  | .ite _ _ _, _, _ => false
  | .ix a b, sc, x => match asSub x with | some (o, i) => chkE a sc o && chkE b sc i | none => false
  | .slL a lo hi, sc, x => match asSl x with | some (o, l, u) => chkE a sc o && chkO lo sc l && chkO hi sc u | none => false
  | .slT a lo hi, sc, x => match asSl x with | some (o, l, u) => chkE a sc o && chkO lo sc l && chkO hi sc u | none => false
  | .cat a b, sc, x => match asBin x with | some (l, .Add, r) => chkE a sc l && chkE b sc r | _ => false
  | .catT a b, sc, x => match asBin x with | some (l, .Add, r) => chkE a sc l && chkE b sc r | _ => false
  | .rep a b, sc, x => match asBin x with | some (l, .Mult, r) => chkE a sc l && chkE b sc r | _ => false
  | .tup es, sc, x => match asTup x with | some xs => chkEs es sc xs | none => false
  | .lst es, sc, x => match asLst x with | some xs => chkEs es sc xs | none => false
  | .call f es, sc, x => match asCall x with | some (n, y, ys) => decide (T.g f = some n) && glB sc n && nmB n && chkEs es sc (y :: ys) | none => false
  | .len a, sc, x => match asCall x with | some (n, y, []) => decide (n = "len") && glB sc n && chkE a sc y | _ => false
  | .lstOf a, sc, x => match asCall x with | some (n, y, []) => decide (n = "list") && glB sc n && chkE a sc y | _ => false
  | .tupOf a, sc, x => match asCall x with | some (n, y, []) => decide (n = "tuple") && glB sc n && chkE a sc y | _ => false
  | .lrng a, sc, x => match asCall x with | some (n, y, []) => decide (n = "list") && glB sc n && (match asCall y with | some (m, z, []) => decide (m = "range") && glB sc m && chkE a sc z | _ => false) | _ => false
  | .abs a, sc, x => match asCall x with | some (n, y, []) => decide (n = "abs") && glB sc n && chkE a sc y | _ => false
  | .max2 a b, sc, x => match asCall x with | some (n, y, [z]) => decide (n = "max") && glB sc n && chkE a sc y && chkE b sc z | _ => false
  | .min2 a b, sc, x => match asCall x with | some (n, y, [z]) => decide (n = "min") && glB sc n && chkE a sc y && chkE b sc z | _ => false
  | .sum a, sc, x => match asCall x with | some (n, y, []) => decide (n = "sum") && glB sc n && chkE a sc y | _ => false
  | .isI t a, sc, x => match asCall x with | some (n, y, [z]) => decide (n = "isinstance") && glB sc n && chkE a sc y && (match asName z with | some m => decide (m = t.nm) && glB sc m | none => false) | _ => false
  | .comp tg it e, sc, x => match asComp x with
    | some (elt, tgx, iter, [], scope) => (match tgNames tg tgx with
      | some ns => (tgIt it tg && chkIt it sc iter) && blkC N sc scope (ns.zip tg) && (ns.all fun n => locB (relS scope sc) n && (loc1B (relS scope sc) n || decide (scope.names.lookup n = some .cell))) && chkE e (relS scope sc) elt
      | none => false)
    | _ => false
  | .compIf tg it c e, sc, x => match asComp x with
    | some (elt, tgx, iter, [cx], scope) => (match tgNames tg tgx with
      | some ns => (tgIt it tg && chkIt it sc iter) && blkC N sc scope (ns.zip tg) && (ns.all fun n => locB (relS scope sc) n && (loc1B (relS scope sc) n || decide (scope.names.lookup n = some .cell))) && chkE c (relS scope sc) cx && chkE e (relS scope sc) elt
      | none => false)
    | _ => false
  | .dnew, _, x => match x with | .Dict [] [] _ => true | _ => false
  | .dget a b, sc, x => match asSub x with | some (o, i) => chkE a sc o && chkE b sc i | none => false
  | .din a b, sc, x => match asCmp x with | some (l, .In, r) => chkE a sc l && chkE b sc r | _ => false
  | .dnotin a b, sc, x => match asCmp x with | some (l, .NotIn, r) => chkE a sc l && chkE b sc r | _ => false
  | .maxL a, sc, x => match asCall x with | some (n, y, []) => decide (n = "max") && glB sc n && chkE a sc y | _ => false
  | .isX cs tp a, sc, x => match asCall x with | some (n, y, [z]) => decide (n = "isinstance") && glB sc n && chkE a sc y && chkCls T cs tp sc z | _ => false
  | .isVE a, sc, x => match asCall x with | some (n, y, [z]) => decide (n = "isinstance") && glB sc n && chkE a sc y && chkVE sc z | _ => false
  | .xf f a, sc, x => match asAttr x with | some (o, n) => decide (n = f) && isNm o && chkE a sc o && T.xf.any (fun fs => fs.contains f) | none => false
  | .mkx _ _ _, _, _ => false
  | .fld f a, sc, x => match asAttr x with | some (o, n) => decide (n = f) && isNm o && chkE a sc o && (decide (f = "many") || decide (f = "earnings")) && T.tb | none => false
  | .meth f m a es, sc, x => match asMeth x with | some (o, n, as) => T.tb && decide (n = m) && decide (T.m f = some m) && isNm o && chkE a sc o && chkEs es sc as && decide (as.length ≤ 20) | none => false
  | .mk f es, sc, x => match asCall x with | some (n, y, ys) => decide (T.i f = some n) && glB sc n && nmB n && chkEs es sc (y :: ys) | none => false
  | .idx a b, sc, x => match asMeth x with | some (o, n, [y]) => decide (n = "index") && isNm o && chkE a sc o && chkE b sc y | _ => false
  | .revL a, sc, x => match asCall x with | some (n, y, []) => decide (n = "list") && glB sc n && (match asCall y with | some (m, z, []) => decide (m = "reversed") && glB sc m && chkE a sc z | _ => false) | _ => false
  | .gint n i, sc, x => match asName x with | some m => decide (m = n) && glB sc n && nmB n && T.k.any (fun z => decide (z = (n, i))) | none => false
def chkEs : Es → Scope → List Expr → Bool
  | .nil, _, [] => true
  | .cons e es, sc, x :: xs => chkE e sc x && chkEs es sc xs
  | _, _, _ => false
def chkO : O → Scope → Option Expr → Bool
  | .no, _, none => true
  | .yes e, sc, some x => chkE e sc x
  | _, _, _ => false
def chkIt : It → Scope → Expr → Bool
  | .lst e, sc, x => chkE e sc x
  | .tup e, sc, x => chkE e sc x
  | .rng e, sc, x => match asCall x with | some (n, y, []) => decide (n = "range") && glB sc n && chkE e sc y | _ => false
  | .rng2 a b, sc, x => match asCall x with | some (n, y, [z]) => decide (n = "range") && glB sc n && chkE a sc y && chkE b sc z | _ => false
  | .enum e, sc, x => match asCall x with | some (n, y, []) => decide (n = "enumerate") && glB sc n && chkE e sc y | _ => false
  | .zip a b, sc, x => match asCall x with | some (n, y, [z]) => decide (n = "zip") && glB sc n && chkE a sc y && chkE b sc z | _ => false
  | .rev e, sc, x => match asCall x with | some (n, y, []) => decide (n = "reversed") && glB sc n && chkE e sc y | _ => false
  | .zipT a b, sc, x => match asCall x with | some (n, y, [z]) => decide (n = "zip") && glB sc n && chkE a sc y && chkE b sc z | _ => false
end
end
/-- no star, no set display: every term -/
def plainX : Expr → Bool | .Starred .. => false | .Set .. => false | .Slice .. => false | _ => true
theorem chkE_plain {T : Nm} {N : List Str} (e : E) {sc : Scope} {x : Expr} (h : chkE T N e sc x = true) : plainX x = true := by
  cases e with
  | pur e => exact chkE_plain e (by unfold chkE at h; exact h)
  | pin e => exact chkE_plain e (by unfold chkE at h; exact h)
  | _ => cases x <;> first | rfl | (exfalso; simp [chkE, asConst, asName, asBin, asUn, asCmp, asBool, asIf, asSub, asSl, asTup, asLst, asCall, asComp, asMeth, asAttr] at h)
termination_by structural e
end Tr

/-! What the terms mean, the machine does: expressions. -/
namespace Tr
open PySem PySem.Spec PyProof.Rows L2

/-- how an exception of class c with these fields lies -/
def XR (p : Pm) (c : Nat) (fs : List (Str × Int)) (cls : Value) (dd : Option Addr) (H : Hp) : Prop := cls = .ref (p.cad c) ∧ XD H fs dd ∧ c ∈ p.xr
section
variable (p : Pm) (W : WX) (σ : L2.St)
/-- what is wanted behind a piece: of its value k, of its exception W -/
def Rs {α : Type} (H : Hp) (R : Res α) (k : α → Prop) : Prop :=
  match R with
  | .ok a => k a
  | .exc c fs => ∀ cls dd H', Same H H' → XR p c fs cls dd H' → W cls dd σ H'
  | .stuck => False
end
section
variable {p : Pm} {W : WX} {σ : L2.St} {α β : Type} {H H' : Hp}
theorem Rs.bind {R : Res α} {f : α → Res β} {k : β → Prop} (h : Rs p W σ H (R.bind f) k) : Rs p W σ H R fun a => Rs p W σ H (f a) k := by
  cases R <;> exact h
theorem Rs.mono {R : Res α} {k k' : α → Prop} (h : Rs p W σ H R k) (w : ∀ a, R = .ok a → k a → k' a) : Rs p W σ H R k' := by
  cases R with
  | ok a => exact w a rfl h
  | exc c fs => exact h
  | stuck => exact h
theorem Rs.same {R : Res α} {k : α → Prop} (s : Same H H') (h : Rs p W σ H R k) : Rs p W σ H' R k := by
  cases R with
  | ok a => exact h
  | exc c fs => exact fun cls dd H2 s2 x => h cls dd H2 (s.trans s2) x
  | stuck => exact h
theorem Rs.ok {a : α} {k : α → Prop} (h : Rs p W σ H (.ok a) k) : k a := h
theorem Rs.bool {R : Res D} {f : Bool → Res β} {k : β → Prop} (h : Rs p W σ H (boolD R f) k) : Rs p W σ H R fun d => ∃ b, d = .bl b ∧ Rs p W σ H (f b) k := by
  refine (Rs.bind (show Rs p W σ H (R.bind fun d => match d with | .bl b => f b | _ => .stuck) k from h)).mono fun d _ h => ?_
  cases d with
  | bl b => exact ⟨b, rfl, h⟩
  | _ => exact h.elim
end

/-- the names' values in the heap -/
structure Er (p : Pm) (A : Avs) (fl : Fls) (env : Env) (σ : L2.St) (H : Hp) : Prop where
  ok : A.Ok H
  len : env.length = σ.length
  slot : ∀ (i : Nat) (d : D), env[i]? = some (some d) → ∃ v, σ[i]? = some (some v) ∧ ∃ pos : Addr → List Nat → Prop, (∀ a r, pos a r → ¬ A.a0 a) ∧ Cl p H (fl.getD i 0) A pos d v
theorem Er.same {p : Pm} {A : Avs} {fl : Fls} {env : Env} {σ : L2.St} {H H' : Hp} (s : Same H H') (h : Er p A fl env σ H) : Er p A fl env σ H' :=
  ⟨h.ok.same s, h.len, fun i d e => let ⟨v, e1, pos, n, c⟩ := h.slot i d e; ⟨v, e1, pos, n, Cl.same s (fun a z => .inl z) (fun a r z => z) c⟩⟩
theorem Er.plus {p : Pm} {A : Avs} {fl : Fls} {env : Env} {σ : L2.St} {H H' : Hp} {tn : Plc} (s : Same H H') (f : ∀ a, tn a ≠ none → H a = none ∧ H' a ≠ none) (h : Er p A fl env σ H) : Er p (A.plus tn) fl env σ H' :=
  ⟨⟨h.ok.le01, fun a z => .inl (h.ok.le12 a z), fun a z => z.elim (fun z => same_nn s (h.ok.dom a z)) fun z => (f a z).2⟩, h.len,
    fun i d e => let ⟨v, e1, pos, n, c⟩ := h.slot i d e; ⟨v, e1, pos, n, Cl.same s (fun a z => z.elim .inl fun z => .inr (f a z).1) (fun a r z => z) c⟩⟩

/-- what a def promises: at trees ds its value is F ds -/
def spF (p : Pm) (n : Nat) (F : Fn) (r : Nat) : Sp := fun vs H Q E => vs.length = n ∧ ∃ ds, RepL p H nobody ds vs ∧
  match F ds with
  | .ok d => ∀ v H', Same H H' → Val p r ⟨nobody, nobody, fun a => H a ≠ none⟩ H H' d v → Q v H'
  | .exc c fs => ∀ cls dd H', Same H H' → XR p c fs cls dd H' → E cls dd H'
  | .stuck => False

def bltNames : List Str := ["len", "list", "tuple", "range", "abs", "max", "min", "sum", "isinstance", "int", "bool", "dict", "str", "enumerate", "zip", "reversed", "sorted", "ValueError"]
/-- the promise of the own class's __init__: at trees ds the object is F ds -/
def spTI (p : Pm) (n : Nat) (F : Fn) : Sp := fun vs H Q E => vs.length = n ∧ ∃ (x dx : Addr) (ws : List V) (ds : List D), vs = .ref x :: ws ∧ H x = some (.ins p.tc dx []) ∧ RepL p H (fun b => b = x) ds ws ∧
  match F ds with
  | .ok d => ∀ H', (∀ b o, H b = some o → b ≠ x → H' b = some o) → Rep p H' (fun b => H b ≠ none ∧ b ≠ x) d (.ref x) → Q .non H'
  | .exc c fs => ∀ cls dd H', (∀ b o, H b = some o → b ≠ x → H' b = some o) → XR p c fs cls dd H' → E cls dd H'
  | .stuck => False
/-- the promise of an exception's __init__: its fields are what it is made with -/
def spXI (C : Addr) (fs : List Str) : Sp := fun vs H Q _ => ∃ (a : Addr) (ws : List V), vs = .ref a :: ws ∧ ws.length = fs.length ∧ H a = some (exo a C none) ∧
  ∀ (d : Addr) (gs : List (Str × V)) (H' : Hp), H d = none → H' a = some (exo a C (some d)) → H' d = some (exd d gs) → (∀ b o, H b = some o → b ≠ a → H' b = some o) → (∀ f v, (fs.zip ws).lookup f = some v → gs.lookup f = some v) → Q .non H'
/-- what the written part says of an own exception class that is raised -/
structure RaiseOk (K : PySem.W.Frag) (C : Addr) : Prop where
  sub : PySem.W.subIn K (.ref C) (.type "BaseException") = some true
  ga : PySem.W.findIn K (.ref C) "__getattribute__" = some (some (.builtin "BaseException.__getattribute__"))
  gg : PySem.W.findIn K (.ref C) "__getattr__" = some none
  ca : PySem.W.findIn K (.ref C) "__class__" = some (some (.builtin "object.__class__"))
  mo : PySem.W.mroIn K C (.type "object") = some true
  hd : PySem.W.hasDictIn K C = true
/-- .. of all own exception classes -/
structure Xok (p : Pm) (T : Nm) : Prop where
  kp : ∀ c x, T.x[c]? = some x → PySem.W.keepIn p.K (.ref (p.cad c)) = true ∧ (PySem.W.clsIn p.K (p.cad c)).isSome = true ∧ PySem.W.typeIn p.K (.ref (p.cad c)) = some (.type "type")
  rq : ∀ c ∈ T.rs, c ∈ p.xr
  rs : ∀ c ∈ p.xr, c < T.x.length ∧ c ≠ 0
  sub : ∀ c ∈ p.xr, ∀ d x, T.x[d]? = some x → PySem.W.subIn p.K (.ref (p.cad c)) (.ref (p.cad d)) = some (decide (d = 0) || decide (c = d))
  ve : ∀ c ∈ p.xr, PySem.W.subIn p.K (.ref (p.cad c)) (.type "ValueError") = some true
  non : ∀ d x, T.x[d]? = some x → PySem.W.subIn p.K (.type "NoneType") (.ref (p.cad d)) = some false
  ra : ∀ c ∈ p.xr, RaiseOk p.K (p.cad c)
  pe : p.xr ≠ [] → PySem.W.subIn p.K (.ref (p.cad 0)) (.type "BaseException") = some true ∧ PySem.W.hasDictIn p.K (p.cad 0) = true
  raw : ∀ c ∈ p.xr, T.xf[c]? = some [] → PySem.W.excIn p.K (p.cad c) [.type "ValueError", .type "Exception", .type "BaseException", .type "object"] "ValueError.__new__" = true
  oex : ∀ c ∈ p.xr, ∀ fs, T.xf[c]? = some fs → fs ≠ [] → OexC p.K (p.cad c)
  no : ∀ c ∈ p.xr, ∀ f, T.xf.any (fun fs => fs.contains f) = true → PySem.W.findIn p.K (.ref (p.cad c)) f = some none
  sp : p.xr ≠ [] → PySem.W.specialIn p.K (.builtin "object.__class__") "__get__" = some (some (.builtin "getset_descriptor.__get__")) ∧ PySem.W.takesIn p.K (.builtin "object.__class__") = some true
/-- the context of a body: the defs that stand there, the built-ins -/
structure Good (p : Pm) (T : Nm) (G : Gam) (rc : Nat → Nat) (kk : Nat) (W : WX) (X : Cx) : Prop where
  calm : X.calm = true
  nd : X.N.Nodup
  kq : X.K = p.K
  room : Room kk X.A
  tk : Takes X W
  blt : ∀ b ∈ bltNames, X.mg b = none
  rcl : ∀ f, 2 ≤ rc f ∧ rc f ≤ 9
  fn : ∀ f x, T.g f = some x → ∃ adr fd ps, X.mg x = some (.ref adr) ∧ PySem.W.keepIn X.K (.ref adr) = true ∧ Binds X.K fd ps [] ∧
    FnOk X.prog X.w X.K X.mg X.base (L2.CX X.prog X.w) kk adr fd ps (spF p ps.length (G f) (rc f)) ∧ ∀ ds, G f ds ≠ .stuck → ds.length = ps.length
  fnM : ∀ f x, T.m f = some x → ∃ adr fd ps, Meth X.K p.tc x adr ∧ Binds X.K fd ps [] ∧
    FnOk X.prog X.w X.K X.mg X.base (L2.CX X.prog X.w) kk adr fd ps (spF p ps.length (G f) (rc f)) ∧ ∀ ds, G f ds ≠ .stuck → ds.length = ps.length
  fnI : ∀ f x, T.i f = some x → ∃ k adr fd ps, k + 1 ≤ kk ∧ X.mg x = some (.ref p.tc) ∧ Mk X.K p.tc adr ∧ Binds X.K fd ps [] ∧
    FnOk X.prog X.w X.K X.mg X.base (L2.CX X.prog X.w) k adr fd ps (spTI p ps.length (G f)) ∧ rc f = 2 ∧ ∀ ds, G f ds ≠ .stuck → ds.length + 1 = ps.length
  tok : T.tb = true → Cls X.K p.tc ∧ NoAttr X.K p.tc "many" ∧ NoAttr X.K p.tc "earnings"
  xok : Xok p T
  xmg : ∀ c x, T.x[c]? = some x → X.mg x = some (.ref (p.cad c))
  con : ∀ x i, (x, i) ∈ T.k → ∃ t, X.mg x = some (.int i t)
  xin : ∀ c ∈ T.rs, ∀ fs, T.xf[c]? = some fs → fs ≠ [] → ∃ k fI fd, k + 1 ≤ kk ∧ PySem.W.findIn X.K (.ref (p.cad c)) "__init__" = some (some (.ref fI)) ∧ PySem.W.typeIn X.K (.ref fI) = some (.type "function") ∧ Binds X.K fd ("self" :: fs) [] ∧
    FnOk X.prog X.w X.K X.mg X.base (L2.CX X.prog X.w) k fI fd ("self" :: fs) (spXI (p.cad c) fs)

section
variable (p : Pm) (G : Gam) (rc : Nat → Nat) (W : WX)
def tE (e : E) : TE := fun σ H Q => ∃ env fl A, Er p A fl env σ H ∧ Rs p W σ H (e.sem G env) fun d => ∀ v H', Same H H' → Val p (e.cls rc fl) A H H' d v → Cn p H' (e.cct rc fl) A d v → Q v H'
def tEs (es : Es) : TA := fun σ H Q => ∃ env fl A, Er p A fl env σ H ∧ Rs p W σ H (es.sem G env) fun ds => ∀ vs H', Same H H' → EL p (es.cls rc fl) A H H' ds vs → Q vs H'
def tO (o : O) : TO := fun σ H Q => ∃ env fl A, Er p A fl env σ H ∧ Rs p W σ H (o.sem G env) fun i => ∀ H', Same H H' → Q i H'
def tT (e : E) : TT := fun σ H Q => ∃ env fl A, Er p A fl env σ H ∧ Rs p W σ H (e.sem G env) fun d => ∃ b, d = .bl b ∧ ∀ H', Same H H' → Q b H'
end

/-! ### classes are at most 9 -/
section
variable {rc : Nat → Nat}
theorem vC_le (f : Nat) : vC f ≤ 9 := by unfold vC; (repeat' split) <;> omega
theorem vCC_le (f : Nat) : vCC f ≤ 2 ∨ vCC f = 9 := by unfold vCC; (repeat' split) <;> omega
theorem dispC_le (f : Nat) : dispC f ≤ 9 := by unfold dispC; (repeat' split) <;> omega
theorem tupC_le9 (f : Nat) : tupC f ≤ 9 := by have := tupC_two f; omega
theorem E.cls_le (hr : ∀ f, 2 ≤ rc f ∧ rc f ≤ 9) (e : E) (fl : Fls) : e.cls rc fl ≤ 9 := by
  cases e <;> first | exact vC_le _ | exact dispC_le _ | exact tupC_le9 _ | exact (hr _).2 | exact Nat.le_refl 9 | exact (by decide : 8 ≤ 9) | skip
  · rename_i a; exact E.cls_le hr a fl
  · rename_i c a b
    exact Nat.le_trans (Nat.min_le_left _ _) (E.cls_le hr a fl)
termination_by structural e
theorem Es.cls_le (hr : ∀ f, 2 ≤ rc f ∧ rc f ≤ 9) : ∀ (es : Es) (fl : Fls), es.cls rc fl ≤ 9
  | .nil, _ => Nat.le_refl 9
  | .cons e es, fl => Nat.le_trans (Nat.min_le_left _ _) (E.cls_le hr e fl)
theorem E.cct_two (e : E) (fl : Fls) : e.cct rc fl ≤ 2 ∨ e.cct rc fl = 9 := by
  cases e <;> first | exact vCC_le _ | exact tupC_two _ | exact .inr rfl | exact .inl (show (2 : Nat) ≤ 2 from Nat.le_refl 2)
theorem tupC_id {m : Nat} (h : m ≤ 2 ∨ m = 9) : tupC m = m := by unfold tupC; split <;> omega
end

section
variable {X : Cx} {p : Pm} {T : Nm} {G : Gam} {rc : Nat → Nat} {kk : Nat} {W : WX}
theorem _root_.L2.PE.imp {e : Expr} {t t' : TE} (h : PE X e t) (w : ∀ σ H Q, t' σ H Q → t σ H Q) : PE X e t' := ⟨fun pins s σ H Q I q => h.run pins s σ H Q I (w _ _ _ q)⟩
theorem _root_.L2.PT.imp {e : Expr} {t t' : TT} (h : PT X e t) (w : ∀ σ H Q, t' σ H Q → t σ H Q) : PT X e t' := ⟨fun pins s σ H Q I q => h.run pins s σ H Q I (w _ _ _ q)⟩
theorem _root_.L2.PA.imp {e : List Expr} {t t' : TA} (h : PA X e t) (w : ∀ σ H Q, t' σ H Q → t σ H Q) : PA X e t' := ⟨fun pos pins s σ H Q I q => h.run pos pins s σ H Q I (w _ _ _ q)⟩
theorem _root_.L2.PO.imp {e : Option Expr} {t t' : TO} (h : PO X e t) (w : ∀ σ H Q, t' σ H Q → t σ H Q) : PO X e t' := ⟨fun pins s σ H Q I q => h.run pins s σ H Q I (w _ _ _ q)⟩

/-- the facts of one operand -/
structure Opd (p : Pm) (rc : Nat → Nat) (A : Avs) (fl : Fls) (e : E) (H : Hp) (d : D) (v : V) : Prop where
  rep : Rep p H A.a0 d v
  cn : Cn p H (e.cct rc fl) A d v
theorem Opd.same {A : Avs} {fl : Fls} {e : E} {H H' : Hp} {d : D} {v : V} (s : Same H H') (h : Opd p rc A fl e H d v) : Opd p rc A fl e H' d v := ⟨h.rep.same s, h.cn.same s⟩
variable (hr : ∀ f, 2 ≤ rc f ∧ rc f ≤ 9)
include hr
/-- one operand -/
theorem one {β : Type} {σ : L2.St} {H : Hp} {env : Env} {fl : Fls} {A : Avs} {a : E} {F : D → Res β} {k : β → Prop} {R : V → Hp → Prop} (er : Er p A fl env σ H) (h : Rs p W σ H ((a.sem G env).bind F) k)
    (fin : ∀ x v H1, Same H H1 → A.Ok H → Opd p rc A fl a H1 x v → Val p (a.cls rc fl) A H H1 x v → Rs p W σ H1 (F x) k → R v H1) : tE p G rc W a σ H R :=
  ⟨env, fl, A, er, h.bind.mono fun x _ hx v H1 s1 val cn => fin x v H1 s1 er.ok ⟨val.rep (E.cls_le hr a fl) er.ok, cn⟩ val (hx.same s1)⟩
/-- two operands -/
theorem two {β : Type} {σ : L2.St} {H : Hp} {env : Env} {fl : Fls} {A : Avs} {a b : E} {F : D → D → Res β} {k : β → Prop} {R : V → V → Hp → Prop} (er : Er p A fl env σ H)
    (h : Rs p W σ H ((a.sem G env).bind fun x => (b.sem G env).bind fun y => F x y) k)
    (fin : ∀ x y v u H2, Same H H2 → A.Ok H → Opd p rc A fl a H2 x v → Opd p rc A fl b H2 y u → Rs p W σ H2 (F x y) k → R v u H2) : tE p G rc W a σ H fun v H1 => tE p G rc W b σ H1 fun u H2 => R v u H2 :=
  one hr er h fun x v H1 s1 ok o1 _ h1 => one hr (er.same s1) h1 fun y u H2 s2 ok2 o2 _ h2 => fin x y v u H2 (s1.trans s2) ok (o1.same s2) o2 h2
omit hr
/-- a plain value is handed on -/
theorem done {σ : L2.St} {H H2 : Hp} {fl : Fls} {A : Avs} {e : E} {d : D} {v : V} {Q : VK} (s : Same H H2) (hp : d.pure = true) (hcn : ∀ m, Cn p H2 m A d v) (hrep : Rep p H2 A.a0 d v)
    (h : Rs p W σ H2 (.ok d) fun d => ∀ v H', Same H H' → Val p (e.cls rc fl) A H H' d v → Cn p H' (e.cct rc fl) A d v → Q v H') : Q v H2 :=
  h v H2 s (Val.pure hp hrep) (hcn _)

theorem two_lt {n : Nat} (h : n.log2 < 63) : n < 2 ^ 64 := by
  by_cases z : n = 0
  · subst z; decide
  · have h2 : n < 2 ^ 63 := (Nat.log2_lt z).mp h
    exact Nat.lt_trans h2 (by decide)
end
end Tr

/-! Expressions, one by one. -/
namespace Tr
open PySem PySem.Spec PyProof.Rows L2
theorem Rs.ns {p : Pm} {W : WX} {σ : L2.St} {H : Hp} {α : Type} {R : Res α} {k : α → Prop} (h : Rs p W σ H R k) : R ≠ .stuck := fun e => by rw [e] at h; exact h
theorem AOp.inv {op : AOp} {x y : D} (h : op.sem x y ≠ .stuck) : ∃ i j, x = .int i ∧ y = .int j := by
  cases x <;> first | exact absurd rfl h | skip
  cases y <;> first | exact absurd rfl h | exact ⟨_, _, rfl, rfl⟩
theorem COp.inv {op : COp} {x y : D} (h : op.sem x y ≠ .stuck) : ∃ i j, x = .int i ∧ y = .int j := by
  cases x <;> first | exact absurd rfl h | skip
  cases y <;> first | exact absurd rfl h | exact ⟨_, _, rfl, rfl⟩
theorem ite_inv {p : Pm} {W : WX} {σ : L2.St} {H : Hp} {α : Type} {c : Prop} [Decidable c] {R : Res α} {k : α → Prop} (h : Rs p W σ H (if c then R else .stuck) k) : c ∧ Rs p W σ H R k := by
  by_cases hc : c
  · rw [if_pos hc] at h; exact ⟨hc, h⟩
  · rw [if_neg hc] at h; exact h.elim
theorem notSl_plain {b : Expr} (h : plainX b = true) : PlainIx b := by intro o i; cases b <;> first | rfl | cases h
theorem notMark {op : CmpOp} {b : Expr} (h : plainX b = true) : behindInMarks op b = false := by cases b <;> first | rfl | cases h
theorem star_cons {e : Expr} {es : List Expr} {env : PySem.Env} (h : plainX e = true) : starEach (e :: es) env = (false, eval e env) :: starEach es env := by cases e <;> first | rfl | cases h
theorem star_any {env : PySem.Env} {pos : Pos} : ∀ {es : List Expr}, (∀ e ∈ es, plainX e = true) → (backTo pos (starEach es env)).any (·.1) = false
  | [], _ => rfl
  | e :: es, h => by
    rw [star_cons (h e List.mem_cons_self)]
    have ih := star_any (env := env) (pos := pos) (es := es) fun x hx => h x (List.mem_cons_of_mem _ hx)
    unfold backTo at ih ⊢
    rw [List.map_cons, List.any_cons, ih]
    rfl
theorem vis_of {X : Cx} {x : Str} (h : visB X.env.scope x = true) : Vis X.env.scope x := by
  unfold visB at h
  unfold Vis
  split at h <;> first | exact .inl (by assumption) | exact .inr (.inl (by assumption)) | exact .inr (.inr (by assumption)) | cases h
theorem gl_of {X : Cx} {x : Str} (h : glB X.env.scope x = true) : Gl X x := by
  unfold glB at h
  unfold Gl Env.kindOf
  split at h
  · assumption
  · cases h
theorem nm_of {x : Str} (h : nmB x = true) : (x == ("__debug__" : Str)) = false ∧ (x == ("__classdict__" : Str)) = false := by
  unfold nmB at h
  rw [Bool.and_eq_true, Bool.not_eq_true', Bool.not_eq_true'] at h
  exact h
theorem line_ok {n : Nat} (h : n ≤ line) : n ≤ sizeLine := by rw [sizeLine_eq]; unfold line at h; omega
theorem at_get {ds : List D} {vs : List V} {i : Int} {d : D} (hl : vs.length = ds.length) (h : atI ds i = some d) : ∃ j : Nat, ds[j]? = some d ∧ ∀ v, vs[j]? = some v → atI vs i = some v := by
  unfold atI at h ⊢
  rw [hl]
  cases e : ixN ds.length i with
  | none => rw [e] at h; cases h
  | some j =>
    rw [e] at h
    exact ⟨j, h, fun v hv => hv⟩
theorem Clo.val' {p : Pm} {m : Nat} {A : Avs} {H0 H : Hp} {d : D} {v : V} (hm : m ≤ 2 ∨ m = 9) (h : Clo p H m A d v) : Val p m A H0 H d v := by
  refine ⟨fun _ => none, fun a z => absurd rfl z, ?_⟩
  unfold Cl
  split
  · rename_i e; subst e; exact ⟨h.2 rfl, h.1⟩
  · split
    · rename_i e; subst e; exact h.1
    · split
      · rename_i e; subst e; exact h.1
      · have : m = 2 := by omega
        subst this
        exact Rep.weak (fun a z => .inl (z.elim id fun z => absurd rfl z)) (show Rep p H A.a2 d v from h.1)
theorem EL.clo {p : Pm} {m : Nat} {A : Avs} {H0 H : Hp} {ds : List D} {vs : List V} (hm : m ≤ 2 ∨ m = 9) (h : CloL p H m A ds vs) : EL p m A H0 H ds vs := by
  refine ⟨fun _ => none, fun a z => absurd rfl z, h.1.length, fun j d v e1 e2 => ?_⟩
  obtain ⟨w, e3, c⟩ := h.get e1
  rw [e2] at e3; cases e3
  obtain ⟨tn, f, cl⟩ := Clo.val' (H0 := H) hm c
  unfold Cl at cl ⊢
  split
  · rename_i e; rw [if_pos e] at cl; exact cl
  · rename_i e; rw [if_neg e] at cl
    split
    · rename_i e; rw [if_pos e] at cl; exact cl
    · rename_i e; rw [if_neg e] at cl
      split
      · rename_i e; rw [if_pos e] at cl; exact cl
      · rename_i e; rw [if_neg e] at cl
        have : m = 2 := by omega
        subst this
        exact Rep.weak (fun a z => .inl (z.elim .inl fun z => absurd rfl z)) cl
/-- a container just made holds what it holds -/
theorem Val.cn {p : Pm} {c : Nat} {A : Avs} {H0 H : Hp} {d : D} {v : V} (hc : c ≤ 9) (ok0 : A.Ok H0) (s : Same H0 H) (h : Val p c A H0 H d v) : Cn p H (tupC c) A d v := (h.clo' hc ok0).cn (tupC_two c) (ok0.same s)

section
variable {X : Cx} {p : Pm} {T : Nm} {G : Gam} {rc : Nat → Nat} {kk : Nat} {W : WX} {a b c : E} {l r t : Expr} {pos : Pos}
variable (g : Good p T G rc kk W X)
include g
/-- the value of a term whose class is that of what it holds -/
theorem fin_clo {σ : L2.St} {H H2 : Hp} {fl : Fls} {A : Avs} {e : E} {d : D} {v : V} {Q : VK} {m : Nat} (s : Same H H2) (ok : A.Ok H) (hm : m ≤ 2 ∨ m = 9) (e1 : e.cls rc fl = m) (e2 : e.cct rc fl = m) (c : Clo p H2 m A d v)
    (h : Rs p W σ H2 (.ok d) fun d => ∀ v H', Same H H' → Val p (e.cls rc fl) A H H' d v → Cn p H' (e.cct rc fl) A d v → Q v H') : Q v H2 :=
  h v H2 s (by rw [e1]; exact Clo.val' hm c) (by rw [e2]; exact c.cn hm (ok.same s))
/-- .. of a new list -/
theorem fin_lst {σ : L2.St} {H H2 : Hp} {fl : Fls} {A : Avs} {e : E} {ds : List D} {vs : List V} {q : Addr} {Q : VK} {m : Nat} (s : Same H H2) (ok : A.Ok H) (hm : m ≤ 9) (e1 : e.cls rc fl = dispC m) (e2 : e.cct rc fl = tupC (e.cls rc fl)) (hq : H2 q = none) (el : EL p m A H H2 ds vs)
    (h : Rs p W σ H2 (.ok (.lst ds)) fun d => ∀ v H', Same H H' → Val p (e.cls rc fl) A H H' d v → Cn p H' (e.cct rc fl) A d v → Q v H') : Q (.ref q) (upd H2 q (.lst vs)) := by
  have val := Val.lst hm ok s hq el
  refine h _ _ (s.trans (same_upd hq)) (by rw [e1]; exact val) ?_
  rw [e2, e1]
  exact val.cn (dispC_le m) ok (s.trans (same_upd hq))
theorem fin_tup {σ : L2.St} {H H2 : Hp} {fl : Fls} {A : Avs} {e : E} {ds : List D} {vs : List V} {q : Addr} {Q : VK} {m : Nat} (s : Same H H2) (ok : A.Ok H) (hm : m ≤ 2 ∨ m = 9) (e1 : e.cls rc fl = m) (e2 : e.cct rc fl = tupC (e.cls rc fl)) (hq : H2 q = none) (el : CloL p H2 m A ds vs)
    (h : Rs p W σ H2 (.ok (.tup ds)) fun d => ∀ v H', Same H H' → Val p (e.cls rc fl) A H H' d v → Cn p H' (e.cct rc fl) A d v → Q v H') : Q (.ref q) (upd H2 q (.tup vs)) := by
  have val := Val.tup hm ok s hq el
  refine h _ _ (s.trans (same_upd hq)) (by rw [e1]; exact val) ?_
  rw [e2, e1]
  exact val.cn (by omega) ok (s.trans (same_upd hq))

theorem s_int {i : Int} {k : Nat} : PE X (.Constant (.int i) k pos) (tE p G rc W (.int i)) := pe_int.imp fun σ H Q ⟨env, fl, A, er, h⟩ => done (v := .int i) (fun _ _ e => e) rfl (fun m => show Cn p H m A (.int i) (.int i) from rfl) rfl h
theorem s_bl {i : Bool} {k : Nat} : PE X (.Constant (.bool i) k pos) (tE p G rc W (.bl i)) := pe_bl.imp fun σ H Q ⟨env, fl, A, er, h⟩ => done (v := .bl i) (fun _ _ e => e) rfl (fun m => show Cn p H m A (.bl i) (.bl i) from rfl) rfl h
theorem s_non {k : Nat} : PE X (.Constant .none k pos) (tE p G rc W .non) := pe_non.imp fun σ H Q ⟨env, fl, A, er, h⟩ => done (v := .non) (fun _ _ e => e) rfl (fun m => show Cn p H m A .non .non from rfl) rfl h
theorem s_str {i : Str} {k : Nat} : PE X (.Constant (.str i) k pos) (tE p G rc W (.str i)) := pe_str.imp fun σ H Q ⟨env, fl, A, er, h⟩ => done (v := .str i) (fun _ _ e => e) rfl (fun m => show Cn p H m A (.str i) (.str i) from rfl) rfl h
theorem s_v {i : Nat} {x : Str} (h1 : X.N[i]? = some x) (h2 : visB X.env.scope x = true) (h3 : nmB x = true) : PE X (.Name x pos) (tE p G rc W (.v i)) := by
  refine (pe_var h1 (vis_of h2) (nm_of h3).1 (nm_of h3).2).imp fun σ H Q h => ?_
  obtain ⟨env, fl, A, er, h⟩ := h
  unfold E.sem at h
  split at h
  · rename_i d e
    obtain ⟨v, e1, ps, n0, cl⟩ := er.slot i d e
    refine ⟨v, e1, h v H (fun _ _ e => e) ?_ ?_⟩
    · show Val p (vC (fl.getD i 0)) A H H d v
      generalize fl.getD i 0 = f at cl
      unfold vC
      unfold Cl at cl
      split
      · rename_i e; rw [if_pos e] at cl; exact Clo.val' (.inr rfl) ⟨cl.2, fun _ => cl.1⟩
      · rename_i e9
        rw [if_neg e9] at cl
        split
        · rename_i e2
          refine Clo.val' (.inl e2) ⟨?_, fun e => absurd e e9⟩
          unfold Avs.at
          split
          · rename_i e; rw [if_pos e] at cl; exact cl
          · rename_i e; rw [if_neg e] at cl
            split
            · rename_i e; rw [if_pos e] at cl; exact cl
            · rename_i e; rw [if_neg e] at cl
              try rw [if_neg e9]
              have : f = 2 := by omega
              subst this
              exact cl
        · rename_i e2
          rw [if_neg (by omega), if_neg (by omega)] at cl
          exact Clo.val' (m := 0) (.inl (by decide)) ⟨Own.rep _ _ d v (fun _ _ e => e) (fun a z => .inl (er.ok.le12 a (er.ok.le01 a z))) (fun a r h _ => n0 a r h) cl, fun e => by cases e⟩
    · show Cn p H (vCC (fl.getD i 0)) A d v
      generalize fl.getD i 0 = f at cl
      unfold vCC
      unfold Cl at cl
      split
      · rename_i e; rw [if_pos e] at cl; exact Clo.cn (.inr rfl) er.ok ⟨cl.2, fun _ => cl.1⟩
      · rename_i e9
        rw [if_neg e9] at cl
        split
        · rename_i e2
          refine Clo.cn (.inl e2) er.ok ⟨?_, fun e => absurd e e9⟩
          unfold Avs.at
          split
          · rename_i e; rw [if_pos e] at cl; exact cl
          · rename_i e; rw [if_neg e] at cl
            split
            · rename_i e; rw [if_pos e] at cl; exact cl
            · rename_i e; rw [if_neg e] at cl
              try rw [if_neg e9]
              have : f = 2 := by omega
              subst this
              exact cl
        · rename_i e2
          rw [if_neg (by omega), if_neg (by omega)] at cl
          have r0 : Rep p H A.a0 d v := Own.rep _ _ d v (fun _ _ e => e) (fun a z => .inl (er.ok.le12 a (er.ok.le01 a z))) (fun a r h _ => n0 a r h) cl
          split
          · rename_i e3
            subst e3
            cases d with
            | lst ds =>
              obtain ⟨q, vs, e, ha, hp, hl, hc⟩ := cl
              obtain ⟨q', vs', e', ha', n, _⟩ := r0
              rw [e] at e'; cases e'
              exact ⟨q, vs, e, ha, n, RepL.of hl hc, fun e => by cases e⟩
            | dic ds =>
              obtain ⟨q, vs, e, ha, hp, hl, hc⟩ := cl
              obtain ⟨q', vs', e', ha', n, _⟩ := r0
              rw [e] at e'; cases e'
              exact ⟨q, vs, e, ha, n, RepK.of hl hc, fun e => by cases e⟩
            | tup ds =>
              obtain ⟨q, vs, e, ha, hr⟩ := cl
              exact ⟨q, vs, e, ha, hr, fun e => by cases e⟩
            | obj fs =>
              obtain ⟨q, dx, vs, e, ha, n, hr⟩ := cl
              obtain ⟨q', dx', vs', e', ha', n', _⟩ := r0
              rw [e] at e'; cases e'
              exact ⟨q, dx, vs, e, ha, n', hr, by decide⟩
            | _ => exact r0
          · exact Clo.cn (m := 0) (.inl (by decide)) er.ok ⟨r0, fun e => by cases e⟩
  · exact h.elim
theorem s_pur (ha : PE X l (tE p G rc W a)) : PE X l (tE p G rc W (.pur a)) := by
  refine ha.imp fun σ H Q h => ?_
  obtain ⟨env, fl, A, er, h⟩ := h
  refine ⟨env, fl, A, er, (Rs.bind h).mono fun d _ h v H' s val cn => ?_⟩
  obtain ⟨hp, h⟩ := ite_inv h
  have r0 := val.rep (E.cls_le g.rcl a fl) er.ok
  have c9 : Clo p H' 9 A d v := ⟨r0, fun _ => hp⟩
  exact h v H' s (Clo.val' (m := 9) (.inr rfl) c9) (c9.cn (.inr rfl) (er.ok.same s))
omit g in
theorem pinD_inv {d d' : D} (h : pinD d = .ok d') : d' = d ∧ ((∃ xs, d = .lst xs ∧ D.pureL xs = true) ∨ (∃ xs, d = .tup xs ∧ D.pureL xs = true) ∨ ∃ xs, d = .scr xs) := by
  cases d with
  | lst xs =>
    have h' : (if D.pureL xs = true then Res.ok (D.lst xs) else .stuck) = .ok d' := h
    by_cases q : D.pureL xs = true
    · rw [if_pos q] at h'; exact ⟨(Res.ok.inj h').symm, .inl ⟨xs, rfl, q⟩⟩
    · rw [if_neg q] at h'; cases h'
  | tup xs =>
    have h' : (if D.pureL xs = true then Res.ok (D.tup xs) else .stuck) = .ok d' := h
    by_cases q : D.pureL xs = true
    · rw [if_pos q] at h'; exact ⟨(Res.ok.inj h').symm, .inr (.inl ⟨xs, rfl, q⟩)⟩
    · rw [if_neg q] at h'; cases h'
  | scr xs => exact ⟨(Res.ok.inj h).symm, .inr (.inr ⟨xs, rfl⟩)⟩
  | _ => cases h
theorem s_pin (ha : PE X l (tE p G rc W a)) : PE X l (tE p G rc W (.pin a)) := by
  refine ha.imp fun σ H Q h => ?_
  obtain ⟨env, fl, A, er, h⟩ := h
  refine ⟨env, fl, A, er, (Rs.bind h).mono fun d _ h v H' s val cn => ?_⟩
  have r0 := val.rep (E.cls_le g.rcl a fl) er.ok
  cases hp : pinD d with
  | stuck => rw [hp] at h; exact h.elim
  | exc c fs => exfalso; unfold pinD at hp; split at hp <;> first | cases hp | (split at hp <;> cases hp)
  | ok d' =>
    rw [hp] at h
    obtain ⟨rfl, q⟩ := pinD_inv hp
    refine h v H' s val ?_
    show Cn p H' 9 A d' v
    rcases q with ⟨xs, rfl, q⟩ | ⟨xs, rfl, q⟩ | ⟨xs, rfl⟩
    · obtain ⟨b, vs, rfl, hb, n0, rl⟩ := r0
      exact ⟨b, vs, rfl, hb, n0, rl, fun _ => q⟩
    · obtain ⟨b, vs, rfl, hb, rl⟩ := r0
      exact ⟨b, vs, rfl, hb, rl, fun _ => q⟩
    · exact r0
omit g in
/-- // by whatever is not too long -/
theorem op_fdivA : OpR X (binaryOp .FloorDiv) (rI (fun _ j => j ≠ 0 ∧ j.natAbs.log2 < 9000) fun i j => .int (i.fdiv j)) := opI fun _ _ _ _ _ _ _ hc q => floordiv_int hc.1 q (.inl (PyProof.noPylong_of_log2 hc.2))
theorem s_ar {op : AOp} (ha : PE X l (tE p G rc W a)) (hb : PE X r (tE p G rc W b)) : PE X (.BinOp l op.op r pos) (tE p G rc W (.ar op a b)) := by
  have fin : ∀ {σ : L2.St} {H : Hp} {Q : VK} {R : R2}, (∀ i j H2, Same H H2 → Rs p W σ H2 (op.int i j) (fun d => ∃ z, d = .int z ∧ Q (.int z) H2) → R (.int i) (.int j) H2 Q) → tE p G rc W (.ar op a b) σ H Q → tOp R (tE p G rc W a) (tE p G rc W b) σ H Q := fun {σ H Q R} k h => by
    obtain ⟨env, fl, A, er, h⟩ := h
    refine two g.rcl er h fun x y v u H2 s ok o1 o2 h2 => ?_
    obtain ⟨i, j, rfl, rfl⟩ := AOp.inv h2.ns
    obtain rfl : v = .int i := o1.rep
    obtain rfl : u = .int j := o2.rep
    refine k i j H2 s (Rs.mono (show Rs p W σ H2 (op.int i j) _ from h2) fun d e hd => ?_)
    have isI : ∃ z, d = .int z := by
      cases op <;> simp only [AOp.int] at e
      · exact ⟨_, (Res.ok.inj e).symm⟩
      · exact ⟨_, (Res.ok.inj e).symm⟩
      all_goals (split at e <;> first | exact ⟨_, (Res.ok.inj e).symm⟩ | cases e)
    obtain ⟨z, rfl⟩ := isI
    exact ⟨z, rfl, hd (.int z) H2 s (Val.pure (av := nobody) rfl rfl) rfl⟩
  cases op with
  | add => exact (pe_op op_add ha hb).imp fun σ H Q h => fin (fun i j H2 _ h => ⟨i, j, rfl, rfl, let ⟨z, e, q⟩ := h; by cases e; exact q⟩) h
  | sub => exact (pe_op op_sub ha hb).imp fun σ H Q h => fin (fun i j H2 _ h => ⟨i, j, rfl, rfl, let ⟨z, e, q⟩ := h; by cases e; exact q⟩) h
  | mul =>
    refine (pe_op (op_mul.or op_mulW) ha hb).imp fun σ H Q h => fin (fun i j H2 _ h => ?_) h
    obtain ⟨hc, z, e, q⟩ := ite_inv h
    cases e
    unfold mulFits at hc
    rw [Bool.or_eq_true, Bool.or_eq_true, decide_eq_true_eq, decide_eq_true_eq, decide_eq_true_eq] at hc
    rcases hc with (hc | hc) | hc
    · exact .inl ⟨i, j, rfl, rfl, .inl (by have := two_lt hc; omega), q⟩
    · exact .inl ⟨i, j, rfl, rfl, .inr (by have := two_lt hc; omega), q⟩
    · exact .inr ⟨i, j, rfl, rfl, hc, q⟩
  | fdiv =>
    refine (pe_op op_fdivA ha hb).imp fun σ H Q h => fin (fun i j H2 _ h => ?_) h
    obtain ⟨hc, z, e, q⟩ := ite_inv h
    cases e
    exact ⟨i, j, rfl, rfl, hc, q⟩
  | mod =>
    refine (pe_op op_modN ha hb).imp fun σ H Q h => fin (fun i j H2 _ h => ?_) h
    obtain ⟨hc, z, e, q⟩ := ite_inv h
    cases e
    exact ⟨i, j, rfl, rfl, hc, q⟩
  | pow =>
    refine (pe_op op_pow ha hb).imp fun σ H Q h => fin (fun i j H2 _ h => ?_) h
    obtain ⟨hc, z, e, q⟩ := ite_inv h
    cases e
    exact ⟨i, j, rfl, rfl, hc, q⟩
theorem s_neg (ha : PE X l (tE p G rc W a)) : PE X (.UnaryOp .USub l pos) (tE p G rc W (.neg a)) := by
  refine (pe_un un_neg ha).imp fun σ H Q h => ?_
  obtain ⟨env, fl, A, er, h⟩ := h
  refine one g.rcl er h fun x v H1 s ok o1 _ h1 => ?_
  cases x with
  | int i =>
    obtain rfl : v = .int i := o1.rep
    exact ⟨i, rfl, h1 _ H1 s (Val.pure (av := nobody) rfl rfl) rfl⟩
  | _ => exact h1.elim
theorem s_abs (ha : PE X l (tE p G rc W a)) {x : Str} {q : Pos} (hx : x = "abs") (hg : glB X.env.scope x = true) (hl : plainX l = true) : PE X (.Call (.Name x q) [l] [] pos) (tE p G rc W (.abs a)) := by
  subst hx
  refine (pe_callB call_abs (gl_of hg) (g.blt _ (by decide)) (by decide +kernel) (pa_cons ha pa_nil (star_cons hl)) (by decide) (by decide) (star_cons hl) rfl).imp fun σ H Q h => ?_
  obtain ⟨env, fl, A, er, h⟩ := h
  refine one g.rcl er h fun x v H1 s ok o1 _ h1 => ?_
  cases x with
  | int i =>
    obtain rfl : v = .int i := o1.rep
    exact ⟨i, rfl, h1 _ H1 s (Val.pure (av := nobody) rfl rfl) rfl⟩
  | _ => exact h1.elim
theorem s_max2 (ha : PE X l (tE p G rc W a)) (hb : PE X r (tE p G rc W b)) {x : Str} {q : Pos} (hx : x = "max") (hg : glB X.env.scope x = true) (hl : plainX l = true) (hr : plainX r = true) : PE X (.Call (.Name x q) [l, r] [] pos) (tE p G rc W (.max2 a b)) := by
  subst hx
  refine (pe_callB (call_max2 g.calm) (gl_of hg) (g.blt _ (by decide)) (by decide +kernel) (pa_cons ha (pa_cons hb pa_nil (star_cons hr)) (star_cons hl)) (by decide) (by decide) (star_cons hl) (star_any (fun e he => by rw [List.mem_singleton.mp he]; exact hr))).imp fun σ H Q h => ?_
  obtain ⟨env, fl, A, er, h⟩ := h
  refine two g.rcl er h fun x y v u H2 s ok o1 o2 h2 => ?_
  cases x with
  | int i =>
    cases y with
    | int j =>
      obtain rfl : v = .int i := o1.rep
      obtain rfl : u = .int j := o2.rep
      exact ⟨i, j, rfl, h2 _ H2 s (Val.pure (av := nobody) rfl rfl) rfl⟩
    | _ => exact h2.elim
  | _ => exact h2.elim
theorem s_min2 (ha : PE X l (tE p G rc W a)) (hb : PE X r (tE p G rc W b)) {x : Str} {q : Pos} (hx : x = "min") (hg : glB X.env.scope x = true) (hl : plainX l = true) (hr : plainX r = true) : PE X (.Call (.Name x q) [l, r] [] pos) (tE p G rc W (.min2 a b)) := by
  subst hx
  refine (pe_callB (call_min2 g.calm) (gl_of hg) (g.blt _ (by decide)) (by decide +kernel) (pa_cons ha (pa_cons hb pa_nil (star_cons hr)) (star_cons hl)) (by decide) (by decide) (star_cons hl) (star_any (fun e he => by rw [List.mem_singleton.mp he]; exact hr))).imp fun σ H Q h => ?_
  obtain ⟨env, fl, A, er, h⟩ := h
  refine two g.rcl er h fun x y v u H2 s ok o1 o2 h2 => ?_
  cases x with
  | int i =>
    cases y with
    | int j =>
      obtain rfl : v = .int i := o1.rep
      obtain rfl : u = .int j := o2.rep
      exact ⟨i, j, rfl, h2 _ H2 s (Val.pure (av := nobody) rfl rfl) rfl⟩
    | _ => exact h2.elim
  | _ => exact h2.elim
end
end Tr

/-! Expressions, one by one (on). -/
namespace Tr
open PySem PySem.Spec PyProof.Rows L2
section
variable {X : Cx} {p : Pm} {T : Nm} {G : Gam} {rc : Nat → Nat} {kk : Nat} {W : WX} {a b c e : E} {l r t : Expr} {pos : Pos}

/-! ### tests -/
theorem tT_E {σ : L2.St} {H : Hp} {Q : Bool → Hp → Prop} (hr : ∀ f, 2 ≤ rc f ∧ rc f ≤ 9) (h : tT p G W e σ H Q) : tE p G rc W e σ H fun x H' => ∃ k, x = .bl k ∧ Q k H' := by
  obtain ⟨env, fl, A, er, h⟩ := h
  refine ⟨env, fl, A, er, h.mono fun d _ ⟨b, e1, k⟩ v H' s val _ => ?_⟩
  subst e1
  exact ⟨b, val.rep (E.cls_le hr _ fl) er.ok, k H' s⟩
/-- a comparison, as a value and as a test -/
theorem cmp_both {op : CmpOp} {R : R2} (hr : ∀ f, 2 ≤ rc f ∧ rc f ≤ 9) (ho : OpR X (compareOp op) R) (ha : PE X l (tE p G rc W a)) (hb : PE X r (tE p G rc W b)) (hl : plainX r = true)
    (w : ∀ σ H Q, tE p G rc W e σ H Q → tOp R (tE p G rc W a) (tE p G rc W b) σ H Q) : PE X (.Compare l [op] [r] pos) (tE p G rc W e) ∧ PT X (.Compare l [op] [r] pos) (tT p G W e) :=
  ⟨(pe_cmpR ho ha hb (notMark hl)).imp w, (pt_cmpR ho ha hb (notMark hl)).imp fun σ H Q h => w _ _ _ (tT_E hr h)⟩
variable (g : Good p T G rc kk W X)
include g
theorem s_cmp {op : COp} (ha : PE X l (tE p G rc W a)) (hb : PE X r (tE p G rc W b)) (hl : plainX r = true) : PE X (.Compare l [op.op] [r] pos) (tE p G rc W (.cmp op a b)) ∧ PT X (.Compare l [op.op] [r] pos) (tT p G W (.cmp op a b)) := by
  have fin : ∀ {σ : L2.St} {H : Hp} {Q : VK}, tE p G rc W (.cmp op a b) σ H Q → tOp (rI0 fun i j => .bl (op.int i j)) (tE p G rc W a) (tE p G rc W b) σ H Q := fun {σ H Q} h => by
    obtain ⟨env, fl, A, er, h⟩ := h
    refine two g.rcl er h fun x y v u H2 s ok o1 o2 h2 => ?_
    obtain ⟨i, j, rfl, rfl⟩ := COp.inv h2.ns
    obtain rfl : v = .int i := o1.rep
    obtain rfl : u = .int j := o2.rep
    exact ⟨i, j, rfl, rfl, h2 _ H2 s (Val.pure (av := nobody) rfl rfl) rfl⟩
  cases op with
  | lt => exact cmp_both g.rcl op_lt ha hb hl fun σ H Q h => fin h
  | le => exact cmp_both g.rcl op_le ha hb hl fun σ H Q h => fin h
  | gt => exact cmp_both g.rcl op_gt ha hb hl fun σ H Q h => fin h
  | ge => exact cmp_both g.rcl op_ge ha hb hl fun σ H Q h => fin h
theorem eqS_inv {x y : D} {av : Addr → Prop} {H : Hp} {v u : V} (h : eqS x y ≠ .stuck) (hx : Rep p H av x v) (hy : Rep p H av y u) : scal v u = true ∧ eqS x y = .ok (.bl (decide (v = u))) := by
  cases x <;> first | exact absurd rfl h | skip
  all_goals (cases y <;> first | exact absurd rfl h | skip)
  · rename_i i j
    obtain rfl : v = .bl i := hx
    obtain rfl : u = .bl j := hy
    refine ⟨rfl, ?_⟩
    show Res.ok (D.bl (decide (i = j))) = _
    by_cases e : i = j
    · subst e; simp
    · rw [decide_eq_false e, decide_eq_false (fun z => e (V.bl.inj z))]
  · rename_i i j
    obtain rfl : v = .int i := hx
    obtain rfl : u = .int j := hy
    refine ⟨rfl, ?_⟩
    show Res.ok (D.bl (decide (i = j))) = _
    by_cases e : i = j
    · subst e; simp
    · rw [decide_eq_false e, decide_eq_false (fun z => e (V.int.inj z))]
  · rename_i i j
    obtain rfl : v = .str i := hx
    obtain rfl : u = .str j := hy
    refine ⟨rfl, ?_⟩
    show Res.ok (D.bl (decide (i = j))) = _
    by_cases e : i = j
    · subst e; simp
    · rw [decide_eq_false e, decide_eq_false (fun z => e (V.str.inj z))]
theorem s_eq (ha : PE X l (tE p G rc W a)) (hb : PE X r (tE p G rc W b)) (hl : plainX r = true) : PE X (.Compare l [.Eq] [r] pos) (tE p G rc W (.eq a b)) ∧ PT X (.Compare l [.Eq] [r] pos) (tT p G W (.eq a b)) := by
  refine cmp_both g.rcl op_eq ha hb hl fun σ H Q h => ?_
  obtain ⟨env, fl, A, er, h⟩ := h
  refine two g.rcl er h fun x y v u H2 s ok o1 o2 h2 => ?_
  obtain ⟨sc, e⟩ := eqS_inv g h2.ns o1.rep o2.rep
  rw [e] at h2
  exact ⟨sc, h2 _ H2 s (Val.pure (av := nobody) rfl rfl) rfl⟩
theorem s_ne (ha : PE X l (tE p G rc W a)) (hb : PE X r (tE p G rc W b)) (hl : plainX r = true) : PE X (.Compare l [.NotEq] [r] pos) (tE p G rc W (.ne a b)) ∧ PT X (.Compare l [.NotEq] [r] pos) (tT p G W (.ne a b)) := by
  refine cmp_both g.rcl op_ne ha hb hl fun σ H Q h => ?_
  obtain ⟨env, fl, A, er, h⟩ := h
  refine two g.rcl er h fun x y v u H2 s ok o1 o2 h2 => ?_
  obtain ⟨sc, e⟩ := eqS_inv g (Rs.bind h2).ns o1.rep o2.rep
  rw [e] at h2
  exact ⟨sc, h2 _ H2 s (Val.pure (av := nobody) rfl rfl) rfl⟩
omit g in
theorem op_isBN : OpR X (compareOp .Is) (fun x y H Q => ∃ j : Bool, y = .bl j ∧ ((∃ i : Bool, x = .bl i ∧ Q (.bl (decide (i = j))) H) ∨ (x = .non ∧ Q (.bl false) H))) := by
  intro pins s σ H x y v u Q I rx ry h
  obtain ⟨j, rfl, h⟩ := h
  cases (show u = Value.bool j from ry)
  rcases h with ⟨i, rfl, q⟩ | ⟨rfl, q⟩
  · cases (show v = Value.bool i from rx)
    by_cases e : i = j
    · subst e
      exact wpAny_is_self rfl ⟨.bl true, H, I, rfl, by simpa using q⟩
    · exact wpAny_is_other rfl (fun z => e (Value.bool.inj z)) ⟨.bl false, H, I, rfl, by simpa [e] using q⟩
  · cases (show v = Value.none from rx)
    exact wpAny_is_other rfl (fun z => by cases z) ⟨.bl false, H, I, rfl, q⟩
theorem s_isB (ha : PE X l (tE p G rc W a)) (hb : PE X r (tE p G rc W b)) (hl : plainX r = true) : PE X (.Compare l [.Is] [r] pos) (tE p G rc W (.isB a b)) ∧ PT X (.Compare l [.Is] [r] pos) (tT p G W (.isB a b)) := by
  refine cmp_both g.rcl op_isBN ha hb hl fun σ H Q h => ?_
  obtain ⟨env, fl, A, er, h⟩ := h
  refine two g.rcl er h fun x y v u H2 s ok o1 o2 h2 => ?_
  cases y with
  | bl j =>
    obtain rfl : u = .bl j := o2.rep
    cases x with
    | bl i =>
      obtain rfl : v = .bl i := o1.rep
      exact ⟨j, rfl, .inl ⟨i, rfl, h2 _ H2 s (Val.pure (av := nobody) rfl rfl) rfl⟩⟩
    | non =>
      obtain rfl : v = .non := o1.rep
      exact ⟨j, rfl, .inr ⟨rfl, h2 _ H2 s (Val.pure (av := nobody) rfl rfl) rfl⟩⟩
    | _ => exact h2.elim
  | _ => cases x <;> exact h2.elim
theorem s_isN {k : Nat} {q : Pos} (ha : PE X l (tE p G rc W a)) : PE X (.Compare l [.Is] [.Constant .none k q] pos) (tE p G rc W (.isN a)) ∧ PT X (.Compare l [.Is] [.Constant .none k q] pos) (tT p G W (.isN a)) := by
  have w : ∀ σ H Q, tE p G rc W (.isN a) σ H Q → tIsN (tE p G rc W a) σ H Q := fun σ H Q h => by
    obtain ⟨env, fl, A, er, h⟩ := h
    refine one g.rcl er h fun x v H1 s ok o1 _ h1 => ?_
    have e : isNonD x = decide (v = .non) := by
      have hx := o1.rep
      cases x with
      | non => obtain rfl : v = .non := hx; rfl
      | bl i => obtain rfl : v = .bl i := hx; rfl
      | int i => obtain rfl : v = .int i := hx; rfl
      | str i => obtain rfl : v = .str i := hx; rfl
      | tup ds => obtain ⟨q, _, rfl, _⟩ := hx; rfl
      | lst ds => obtain ⟨q, _, rfl, _⟩ := hx; rfl
      | dic ds => obtain ⟨q, _, rfl, _⟩ := hx; rfl
      | scr ds => obtain ⟨q, rfl, _⟩ := hx; rfl
      | obj ds => obtain ⟨q, _, _, rfl, _⟩ := hx; rfl
      | exc c fs => obtain ⟨q, _, rfl, _⟩ := hx; rfl
    have h1 : Rs p W σ H1 (Res.ok (D.bl (isNonD x))) _ := h1
    rw [e] at h1
    exact h1 (V.bl (decide (v = V.non))) H1 s (Val.pure (av := nobody) rfl rfl) rfl
  exact ⟨(pe_cmp (pc_isN ha) (notMark rfl)).imp w, (pt_cmp (pc_isN ha) (notMark rfl)).imp fun σ H Q h => w _ _ _ (tT_E g.rcl h)⟩
theorem s_notN {k : Nat} {q : Pos} (ha : PE X l (tE p G rc W a)) : PE X (.Compare l [.IsNot] [.Constant .none k q] pos) (tE p G rc W (.notN a)) ∧ PT X (.Compare l [.IsNot] [.Constant .none k q] pos) (tT p G W (.notN a)) := by
  have w : ∀ σ H Q, tE p G rc W (.notN a) σ H Q → tNotN (tE p G rc W a) σ H Q := fun σ H Q h => by
    obtain ⟨env, fl, A, er, h⟩ := h
    refine one g.rcl er h fun x v H1 s ok o1 _ h1 => ?_
    have e : isNonD x = decide (v = .non) := by
      have hx := o1.rep
      cases x with
      | non => obtain rfl : v = .non := hx; rfl
      | bl i => obtain rfl : v = .bl i := hx; rfl
      | int i => obtain rfl : v = .int i := hx; rfl
      | str i => obtain rfl : v = .str i := hx; rfl
      | tup ds => obtain ⟨q, _, rfl, _⟩ := hx; rfl
      | lst ds => obtain ⟨q, _, rfl, _⟩ := hx; rfl
      | dic ds => obtain ⟨q, _, rfl, _⟩ := hx; rfl
      | scr ds => obtain ⟨q, rfl, _⟩ := hx; rfl
      | obj ds => obtain ⟨q, _, _, rfl, _⟩ := hx; rfl
      | exc c fs => obtain ⟨q, _, rfl, _⟩ := hx; rfl
    have h1 : Rs p W σ H1 (Res.ok (D.bl (!isNonD x))) _ := h1
    rw [e] at h1
    exact h1 (V.bl (!decide (v = V.non))) H1 s (Val.pure (av := nobody) rfl rfl) rfl
  exact ⟨(pe_cmp (pc_notN ha) (notMark rfl)).imp w, (pt_cmp (pc_notN ha) (notMark rfl)).imp fun σ H Q h => w _ _ _ (tT_E g.rcl h)⟩
theorem s_not (ha : PE X l (tE p G rc W a)) (ht : PT X l (tT p G W a)) : PE X (.UnaryOp .Not l pos) (tE p G rc W (.not a)) ∧ PT X (.UnaryOp .Not l pos) (tT p G W (.not a)) := by
  refine ⟨(pe_not ha).imp fun σ H Q h => ?_, (pt_not ht).imp fun σ H Q h => ?_⟩
  · obtain ⟨env, fl, A, er, h⟩ := h
    refine one g.rcl er h fun x v H1 s ok o1 _ h1 => ?_
    cases x with
    | bl i =>
      obtain rfl : v = .bl i := o1.rep
      exact ⟨i, rfl, h1 _ H1 s (Val.pure (av := nobody) rfl rfl) rfl⟩
    | _ => exact h1.elim
  · obtain ⟨env, fl, A, er, h⟩ := h
    refine ⟨env, fl, A, er, (Rs.bind h).mono fun d _ h => ?_⟩
    cases d with
    | bl i =>
      obtain ⟨b, e, k⟩ := Rs.ok h
      cases e
      exact ⟨i, rfl, k⟩
    | _ => exact h.elim
omit g in
theorem pw_of {op : BoolOp} {vs : List Expr} {tt : TT} (h : PT X (.BoolOp op vs pos) tt) : PW X (.BoolOp op vs pos) tt := by
  refine ⟨fun whole pins s σ H Q I q => ?_⟩
  have := h.run pins s σ H Q I q
  unfold PySem.isTrue at this ⊢
  exact this
omit g in
theorem Rs.truth {σ : L2.St} {H : Hp} {R : Res D} {k : D → Prop} (h : Rs p W σ H (truthR R) k) : Rs p W σ H R fun d => ∃ b, d = .bl b ∧ k (.bl b) := by
  refine (Rs.bind (show Rs p W σ H (R.bind fun d => match d with | .bl b => .ok (.bl b) | _ => .stuck) k from h)).mono fun d _ h => ?_
  cases d with
  | bl b => exact ⟨b, rfl, h⟩
  | _ => exact h.elim
/-- a chain of and: the rest is one, or a chain -/
theorem s_and (ha : PE X l (tE p G rc W a)) (hta : PT X l (tT p G W a)) (hb : PE X r (tE p G rc W b)) (htb : PT X r (tT p G W b)) {x : Expr} (hx : asBool x = some (.And, l, r)) : PE X x (tE p G rc W (.and a b)) ∧ PT X x (tT p G W (.and a b)) := by
  have wE : ∀ σ H Q, tE p G rc W (.and a b) σ H Q → tAndV (tE p G rc W a) (tE p G rc W b) σ H Q := fun σ H Q h => by
    obtain ⟨env, fl, A, er, h⟩ := h
    refine one g.rcl er (F := fun d => match d with | .bl true => truthR (b.sem G env) | .bl false => Res.ok (D.bl false) | _ => .stuck) h fun x v H1 s ok o1 _ h1 => ?_
    cases x with
    | bl i =>
      obtain rfl : v = .bl i := o1.rep
      refine ⟨i, rfl, ?_⟩
      cases i with
      | true =>
        rw [if_pos rfl]
        refine ⟨env, fl, A, er.same s, (Rs.truth h1).mono fun d hd ⟨z, e, k⟩ v H' s' val cn => ?_⟩
        subst e
        have hv : v = .bl z := val.rep (E.cls_le g.rcl b fl) (er.ok.same s)
        exact k v H' (s.trans s') (Val.pure (av := nobody) rfl hv) hv
      | false => rw [if_neg Bool.false_ne_true]; exact h1 _ H1 s (Val.pure (av := nobody) rfl rfl) rfl
    | _ => exact h1.elim
  have wT : ∀ σ H Q, tT p G W (.and a b) σ H Q → tAnd (tT p G W a) (tT p G W b) σ H Q := fun σ H Q h => by
    obtain ⟨env, fl, A, er, h⟩ := h
    refine ⟨env, fl, A, er, (Rs.bind (show Rs p W σ H ((a.sem G env).bind fun d => match d with | .bl true => truthR (b.sem G env) | .bl false => .ok (.bl false) | _ => .stuck) _ from h)).mono fun d _ h => ?_⟩
    cases d with
    | bl i =>
      refine ⟨i, rfl, fun H' s => ?_⟩
      cases i with
      | true =>
        rw [if_pos rfl]
        refine ⟨env, fl, A, er.same s, (Rs.truth (Rs.same s h)).mono fun d hd ⟨z, e, k⟩ => ?_⟩
        obtain ⟨z', e', k⟩ := k
        cases e'
        exact ⟨z, e, fun H2 s2 => k H2 (s.trans s2)⟩
      | false =>
        rw [if_neg Bool.false_ne_true]
        obtain ⟨z', e', k⟩ := Rs.ok h
        cases e'
        exact k H' s
    | _ => exact h.elim
  rcases asBool_inv hx with ⟨pos, rfl⟩ | ⟨y, z, q, pos, rfl, rfl⟩
  · exact ⟨(pe_and ha (pe_one hb)).imp wE, (pw_and hta (pw_and1 htb)).pt.imp wT⟩
  · have hb' : PE X (.BoolOp .And (y :: z :: q) pos) (tE p G rc W b) := hb
    exact ⟨(pe_and ha hb').imp wE, (pw_and hta (pw_of htb)).pt.imp wT⟩
theorem s_or (ha : PE X l (tE p G rc W a)) (hta : PT X l (tT p G W a)) (hb : PE X r (tE p G rc W b)) (htb : PT X r (tT p G W b)) {x : Expr} (hx : asBool x = some (.Or, l, r)) : PE X x (tE p G rc W (.or a b)) ∧ PT X x (tT p G W (.or a b)) := by
  have wE : ∀ σ H Q, tE p G rc W (.or a b) σ H Q → tOrV (tE p G rc W a) (tE p G rc W b) σ H Q := fun σ H Q h => by
    obtain ⟨env, fl, A, er, h⟩ := h
    refine one g.rcl er (F := fun d => match d with | .bl false => truthR (b.sem G env) | .bl true => Res.ok (D.bl true) | _ => .stuck) h fun x v H1 s ok o1 _ h1 => ?_
    cases x with
    | bl i =>
      obtain rfl : v = .bl i := o1.rep
      refine ⟨i, rfl, ?_⟩
      cases i with
      | false =>
        rw [if_neg Bool.false_ne_true]
        refine ⟨env, fl, A, er.same s, (Rs.truth h1).mono fun d hd ⟨z, e, k⟩ v H' s' val cn => ?_⟩
        subst e
        have hv : v = .bl z := val.rep (E.cls_le g.rcl b fl) (er.ok.same s)
        exact k v H' (s.trans s') (Val.pure (av := nobody) rfl hv) hv
      | true => rw [if_pos rfl]; exact h1 _ H1 s (Val.pure (av := nobody) rfl rfl) rfl
    | _ => exact h1.elim
  have wT : ∀ σ H Q, tT p G W (.or a b) σ H Q → tOr (tT p G W a) (tT p G W b) σ H Q := fun σ H Q h => by
    obtain ⟨env, fl, A, er, h⟩ := h
    refine ⟨env, fl, A, er, (Rs.bind (show Rs p W σ H ((a.sem G env).bind fun d => match d with | .bl false => truthR (b.sem G env) | .bl true => .ok (.bl true) | _ => .stuck) _ from h)).mono fun d _ h => ?_⟩
    cases d with
    | bl i =>
      refine ⟨i, rfl, fun H' s => ?_⟩
      cases i with
      | false =>
        rw [if_neg Bool.false_ne_true]
        refine ⟨env, fl, A, er.same s, (Rs.truth (Rs.same s h)).mono fun d hd ⟨z, e, k⟩ => ?_⟩
        obtain ⟨z', e', k⟩ := k
        cases e'
        exact ⟨z, e, fun H2 s2 => k H2 (s.trans s2)⟩
      | true =>
        rw [if_pos rfl]
        obtain ⟨z', e', k⟩ := Rs.ok h
        cases e'
        exact k H' s
    | _ => exact h.elim
  rcases asBool_inv hx with ⟨pos, rfl⟩ | ⟨y, z, q, pos, rfl, rfl⟩
  · exact ⟨(pe_or ha (pe_one hb)).imp wE, (pw_or hta (pw_or1 htb)).pt.imp wT⟩
  · have hb' : PE X (.BoolOp .Or (y :: z :: q) pos) (tE p G rc W b) := hb
    exact ⟨(pe_or ha hb').imp wE, (pw_or hta (pw_of htb)).pt.imp wT⟩
/-- a if c else b -/
theorem s_ite (hc : PT X t (tT p G W c)) (ha : PE X l (tE p G rc W a)) (hb : PE X r (tE p G rc W b)) : PE X (.IfExp t l r pos) (tE p G rc W (.ite c a b)) := by
  refine (pe_ifExp hc ha hb).imp fun σ H Q h => ?_
  obtain ⟨env, fl, A, er, h⟩ := h
  refine ⟨env, fl, A, er, (Rs.bool h).mono fun d _ ⟨z, e, h⟩ => ⟨z, e, fun H1 s => ?_⟩⟩
  have two : ∀ (x : E) (R : Res D), R = x.sem G env → (E.ite c a b).cls rc fl ≤ x.cls rc fl → Rs p W σ H R (fun d => ∀ v H', Same H H' → Val p ((E.ite c a b).cls rc fl) A H H' d v → Cn p H' ((E.ite c a b).cct rc fl) A d v → Q v H') → tE p G rc W x σ H1 Q := fun x R e le h => by
    subst e
    refine ⟨env, fl, A, er.same s, (Rs.same s h).mono fun d _ k v H' s' val cn => ?_⟩
    have val' := Val.weak le (E.cls_le g.rcl x fl) er.ok (val.since s)
    exact k v H' (s.trans s') val' (val'.cn (E.cls_le g.rcl (.ite c a b) fl) er.ok (s.trans s'))
  cases z with
  | true => exact (show tE p G rc W a σ H1 Q from two a _ rfl (Nat.min_le_left _ _) h)
  | false => exact (show tE p G rc W b σ H1 Q from two b _ rfl (Nat.min_le_right _ _) h)

/-! ### containers -/
theorem ixD_inv {x y : D} {σ : L2.St} {H : Hp} {k : D → Prop} {A : Avs} {m : Nat} {v : V} (h : Rs p W σ H (ixD x y) k) (hv : Cn p H m A x v) (hm : m ≤ 2 ∨ m = 9) :
    ∃ i d w, y = .int i ∧ k d ∧ Clo p H m A d w ∧ ∀ Q : VK, Q w H → rIx X.K v (.int i) H Q := by
  cases x with
  | lst xs =>
    cases y with
    | int i =>
      have h' : Rs p W σ H (match atI xs i with | some d => Res.ok d | none => .stuck) k := h
      cases e : atI xs i with
      | none => rw [e] at h'; exact h'.elim
      | some d =>
        rw [e] at h'
        obtain ⟨q, vs, rfl, hq, _, hc⟩ := hv
        obtain ⟨j, ej, w⟩ := at_get hc.1.length e
        obtain ⟨u, eu, cu⟩ := hc.get ej
        exact ⟨i, d, u, rfl, h', cu, fun Q hQ => .inl ⟨q, vs, i, u, rfl, rfl, SqL.of hq, w u eu, hQ⟩⟩
    | _ => exact h.elim
  | tup xs =>
    cases y with
    | int i =>
      have h' : Rs p W σ H (match atI xs i with | some d => Res.ok d | none => .stuck) k := h
      cases e : atI xs i with
      | none => rw [e] at h'; exact h'.elim
      | some d =>
        rw [e] at h'
        obtain ⟨q, vs, rfl, hq, hc⟩ := hv
        obtain ⟨j, ej, w⟩ := at_get hc.1.length e
        obtain ⟨u, eu, cu⟩ := hc.get ej
        exact ⟨i, d, u, rfl, h', cu, fun Q hQ => .inr (.inl ⟨q, vs, i, u, rfl, rfl, SqT.of hq, w u eu, hQ⟩)⟩
    | _ => exact h.elim
  | scr xs =>
    cases y with
    | int i =>
      have h' : Rs p W σ H (match atI xs i with | some d => Res.ok (D.int d) | none => .stuck) k := h
      cases e : atI xs i with
      | none => rw [e] at h'; exact h'.elim
      | some d =>
        rw [e] at h'
        obtain ⟨q, rfl, hq⟩ := hv
        have hs : SqL X.K H q (xs.map V.int) := by rw [g.kq]; exact hq.seq
        have e2 : atI (xs.map V.int) i = some (.int d) := by
          unfold atI at e ⊢
          rw [List.length_map]
          cases ej : ixN xs.length i with
          | none => rw [ej] at e; cases e
          | some j =>
            rw [ej] at e
            have e' : xs[j]? = some d := e
            show (xs.map V.int)[j]? = _
            rw [List.getElem?_map, e']; rfl
        exact ⟨i, .int d, .int d, rfl, h', ⟨rfl, fun _ => rfl⟩, fun Q hQ => .inl ⟨q, _, i, _, rfl, rfl, hs, e2, hQ⟩⟩
    | _ => exact h.elim
  | _ => exact h.elim
theorem s_ix (ha : PE X l (tE p G rc W a)) (hb : PE X r (tE p G rc W b)) (hl : plainX r = true) : PE X (.Subscript l r pos) (tE p G rc W (.ix a b)) := by
  refine (pe_ix ix_seq ha hb (notSl_plain hl)).imp fun σ H Q h => ?_
  obtain ⟨env, fl, A, er, h⟩ := h
  refine two g.rcl er h fun x y v u H2 s ok o1 o2 h2 => ?_
  have hm := E.cct_two (rc := rc) a fl
  obtain ⟨i, d, w, rfl, k, c, fin⟩ := ixD_inv g h2 o1.cn hm
  obtain rfl : u = .int i := o2.rep
  refine fin Q (k w H2 s ?_ ?_)
  · show Val p (tupC (a.cct rc fl)) A H H2 d w
    rw [tupC_id hm]; exact Clo.val' hm c
  · show Cn p H2 (tupC (tupC (a.cct rc fl))) A d w
    rw [tupC_id hm, tupC_id hm]; exact c.cn hm (ok.same s)
theorem CloL.cut {H : Hp} {A : Avs} {m : Nat} {ds : List D} {vs : List V} (lo hi : Option Int) (h : CloL p H m A ds vs) : CloL p H m A (cutD ds lo hi) (cutV vs lo hi) := by
  refine ⟨h.1.cut lo hi, fun e => ?_⟩
  have hp := h.2 e
  refine pureL_of fun j d ej => ?_
  unfold cutD at ej
  rw [List.getElem?_take] at ej
  split at ej
  · rw [List.getElem?_drop] at ej
    exact pureL_get hp ej
  · cases ej
theorem cloL_ints {H : Hp} {A : Avs} {m : Nat} : ∀ xs : List Int, CloL p H m A (xs.map D.int) (xs.map V.int) := fun xs =>
  ⟨repL_ints xs, fun _ => pureL_of fun j d e => by
    rw [List.getElem?_map] at e
    cases q : xs[j]? with
    | none => rw [q] at e; cases e
    | some i => rw [q] at e; cases e; rfl⟩
/-- what a container of ours holds, as a list -/
theorem slLD_inv {x : D} {lo hi : Option Int} {σ : L2.St} {H : Hp} {k : D → Prop} {A : Avs} {m : Nat} {v : V} (h : Rs p W σ H (slLD x lo hi) k) (hv : Cn p H m A x v) :
    ∃ ds vs q, k (.lst ds) ∧ CloL p H m A ds vs ∧ v = .ref q ∧ ∃ ws, SqL X.K H q ws ∧ vs = cutV ws lo hi := by
  cases x with
  | lst xs =>
    obtain ⟨q, vs, rfl, hq, _, hc⟩ := hv
    exact ⟨_, _, q, h, CloL.cut g lo hi hc, rfl, vs, SqL.of hq, rfl⟩
  | scr xs =>
    obtain ⟨q, rfl, hq⟩ := hv
    have hs : SqL X.K H q (xs.map V.int) := by rw [g.kq]; exact hq.seq
    exact ⟨_, _, q, h, CloL.cut g lo hi (cloL_ints g xs), rfl, _, hs, rfl⟩
  | _ => exact h.elim
theorem s_slL {lo hi : O} {lx hx : Option Expr} {q : Pos} (ha : PE X l (tE p G rc W a)) (hlo : PO X lx (tO p G W lo)) (hhi : PO X hx (tO p G W hi)) : PE X (.Subscript l (.Slice lx hx none q) pos) (tE p G rc W (.slL a lo hi)) := by
  refine (pe_slice sl_list ha hlo hhi).imp fun σ H Q h => ?_
  obtain ⟨env, fl, A, er, h⟩ := h
  refine one g.rcl er h fun x v H1 s1 ok o1 _ h1 => ?_
  refine ⟨env, fl, A, er.same s1, (Rs.bind h1).mono fun lo' _ h2 H2 s2 => ?_⟩
  refine ⟨env, fl, A, (er.same s1).same s2, (Rs.bind (Rs.same s2 h2)).mono fun hi' _ h3 H3 s3 => ?_⟩
  have s := (s1.trans s2).trans s3
  have cn := (o1.same (s2.trans s3)).cn
  obtain ⟨ds, vs, q, k, cl, rfl, ws, hw, e⟩ := slLD_inv g (Rs.same s3 h3) cn
  have hm := E.cct_two (rc := rc) a fl
  refine ⟨q, ws, rfl, hw, fun n hn => ?_⟩
  rw [← e]
  exact fin_lst g (e := .slL a lo hi) (W := W) (G := G) s ok (tupC_le9 _) rfl rfl hn (EL.clo (tupC_two _) (by rw [tupC_id hm]; exact cl)) (σ := σ) k
theorem s_slT {lo hi : O} {lx hx : Option Expr} {q : Pos} (ha : PE X l (tE p G rc W a)) (hlo : PO X lx (tO p G W lo)) (hhi : PO X hx (tO p G W hi)) : PE X (.Subscript l (.Slice lx hx none q) pos) (tE p G rc W (.slT a lo hi)) := by
  refine (pe_slice sl_tupA ha hlo hhi).imp fun σ H Q h => ?_
  obtain ⟨env, fl, A, er, h⟩ := h
  refine one g.rcl er h fun x v H1 s1 ok o1 _ h1 => ?_
  refine ⟨env, fl, A, er.same s1, (Rs.bind h1).mono fun lo' _ h2 H2 s2 => ?_⟩
  refine ⟨env, fl, A, (er.same s1).same s2, (Rs.bind (Rs.same s2 h2)).mono fun hi' _ h3 H3 s3 => ?_⟩
  have s := (s1.trans s2).trans s3
  have cn := (o1.same (s2.trans s3)).cn
  have hm := E.cct_two (rc := rc) a fl
  cases x with
  | tup xs =>
    obtain ⟨q, vs, rfl, hq, hc⟩ := cn
    have k := Rs.ok (Rs.same s3 h3)
    refine ⟨q, vs, rfl, SqT.of hq, fun hw => ?_, fun _ n hn => ?_⟩
    · have e : cutD xs lo' hi' = xs := by
        unfold cutD
        rw [← hc.1.length, hw.1, hw.2, List.drop_zero, Nat.sub_zero, hc.1.length]
        exact List.take_length
      have k' : ∀ v H', Same H H' → Val p ((E.slT a lo hi).cls rc fl) A H H' (.tup xs) v → Cn p H' ((E.slT a lo hi).cct rc fl) A (.tup xs) v → Q v H' := by
        have k2 := k
        rw [e] at k2
        exact k2
      have hp : a.cct rc fl = 9 → (D.tup xs).pure = true := fun z => hc.2 z
      have c : Clo p H3 (a.cct rc fl) A (.tup xs) (.ref q) := ⟨⟨q, vs, rfl, hq, hc.1⟩, hp⟩
      refine k' _ H3 s ?_ ?_
      · show Val p (tupC (a.cct rc fl)) A H H3 _ _
        rw [tupC_id hm]; exact Clo.val' hm c
      · show Cn p H3 (tupC (tupC (a.cct rc fl))) A _ _
        rw [tupC_id hm, tupC_id hm]; exact c.cn hm (ok.same s)
    · exact fin_tup g (e := .slT a lo hi) (W := W) (G := G) s ok (tupC_two _) rfl rfl hn (by rw [tupC_id hm]; exact CloL.cut g lo' hi' hc) (σ := σ) k
  | _ => exact (Rs.same s3 h3).elim
theorem cloL_app {H : Hp} {A : Avs} {m : Nat} {ds es : List D} {vs ws : List V} (h : CloL p H m A ds vs) (k : CloL p H m A es ws) : CloL p H m A (ds ++ es) (vs ++ ws) := by
  refine ⟨h.1.append k.1, fun e => ?_⟩
  have h1 := h.2 e
  have h2 := k.2 e
  clear h k
  induction ds with
  | nil => exact h2
  | cons d ds ih =>
    have h1' : (d.pure && D.pureL ds) = true := h1
    rw [Bool.and_eq_true] at h1'
    show (d.pure && D.pureL (ds ++ es)) = true
    rw [h1'.1, ih h1'.2]; rfl
theorem s_cat (ha : PE X l (tE p G rc W a)) (hb : PE X r (tE p G rc W b)) : PE X (.BinOp l .Add r pos) (tE p G rc W (.cat a b)) := by
  refine (pe_op op_cat ha hb).imp fun σ H Q h => ?_
  obtain ⟨env, fl, A, er, h⟩ := h
  refine two g.rcl er h fun x y v u H2 s ok o1 o2 h2 => ?_
  have hm1 := E.cct_two (rc := rc) a fl
  have hm2 := E.cct_two (rc := rc) b fl
  cases x with
  | lst xs =>
    cases y with
    | lst ys =>
      obtain ⟨hz, h2⟩ := ite_inv h2
      obtain ⟨q, vs, rfl, hq, _, hc⟩ := o1.cn
      obtain ⟨q', ws, rfl, hq', _, hc'⟩ := o2.cn
      refine ⟨q, q', vs, ws, rfl, rfl, hq, hq', line_ok (by rw [hc.1.length, hc'.1.length]; exact hz), fun n hn => ?_⟩
      have hmm : min (a.cct rc fl) (b.cct rc fl) ≤ 2 ∨ min (a.cct rc fl) (b.cct rc fl) = 9 := by omega
      refine fin_lst g (e := .cat a b) s ok (tupC_le9 _) rfl rfl hn (EL.clo (tupC_two _) ?_) h2
      rw [tupC_id hmm]
      exact cloL_app g (CloL.weak (Nat.min_le_left _ _) hm1 hmm (ok.same s) hc) (CloL.weak (Nat.min_le_right _ _) hm2 hmm (ok.same s) hc')
    | _ => exact h2.elim
  | _ => exact h2.elim
theorem s_catT (ha : PE X l (tE p G rc W a)) (hb : PE X r (tE p G rc W b)) : PE X (.BinOp l .Add r pos) (tE p G rc W (.catT a b)) := by
  refine (pe_op op_catA ha hb).imp fun σ H Q h => ?_
  obtain ⟨env, fl, A, er, h⟩ := h
  refine two g.rcl er h fun x y v u H2 s ok o1 o2 h2 => ?_
  have hm1 := E.cct_two (rc := rc) a fl
  have hm2 := E.cct_two (rc := rc) b fl
  have hmm : min (a.cct rc fl) (b.cct rc fl) ≤ 2 ∨ min (a.cct rc fl) (b.cct rc fl) = 9 := by omega
  cases x with
  | tup xs =>
    cases y with
    | tup ys =>
      obtain ⟨hz, h2⟩ := ite_inv h2
      obtain ⟨q, vs, rfl, hq, hc⟩ := o1.cn
      obtain ⟨q', ws, rfl, hq', hc'⟩ := o2.cn
      have c1 := CloL.weak (Nat.min_le_left (a.cct rc fl) (b.cct rc fl)) hm1 hmm (ok.same s) hc
      have c2 := CloL.weak (Nat.min_le_right (a.cct rc fl) (b.cct rc fl)) hm2 hmm (ok.same s) hc'
      have same : ∀ (zs : List D) (us : List V) (n : Addr), CloL p H2 (min (a.cct rc fl) (b.cct rc fl)) A zs us → H2 n = some (.tup us) → zs = xs ++ ys → Q (.ref n) H2 := fun zs us n c hn e => by
        subst e
        have c : Clo p H2 (min (a.cct rc fl) (b.cct rc fl)) A (.tup (xs ++ ys)) (.ref n) := ⟨⟨n, us, rfl, hn, c.1⟩, fun z => c.2 z⟩
        refine Rs.ok h2 _ H2 s ?_ ?_
        · show Val p (tupC _) A H H2 _ _
          rw [tupC_id hmm]; exact Clo.val' hmm c
        · show Cn p H2 (tupC (tupC _)) A _ _
          rw [tupC_id hmm, tupC_id hmm]; exact c.cn hmm (ok.same s)
      refine ⟨q, q', vs, ws, rfl, rfl, SqT.of hq, SqT.of hq', line_ok (by rw [hc.1.length, hc'.1.length]; exact hz), fun e => ?_, fun _ e => ?_, fun _ _ n hn => ?_⟩
      · subst e
        have : xs = [] := by
          have := hc.1.length
          exact List.length_eq_zero_iff.mp this.symm
        subst this
        exact same ys ws q' c2 hq' rfl
      · subst e
        have : ys = [] := by
          have := hc'.1.length
          exact List.length_eq_zero_iff.mp this.symm
        subst this
        exact same xs vs q c1 hq (List.append_nil _).symm
      · refine fin_tup g (e := .catT a b) s ok (tupC_two _) rfl rfl hn ?_ h2
        rw [tupC_id hmm]
        exact cloL_app g c1 c2
    | _ => exact h2.elim
  | _ => exact h2.elim
theorem s_rep (ha : PE X l (tE p G rc W a)) (hb : PE X r (tE p G rc W b)) : PE X (.BinOp l .Mult r pos) (tE p G rc W (.rep a b)) := by
  refine (pe_op op_rep ha hb).imp fun σ H Q h => ?_
  obtain ⟨env, fl, A, er, h⟩ := h
  refine two g.rcl er h fun x y v u H2 s ok o1 o2 h2 => ?_
  have hm := E.cct_two (rc := rc) a fl
  cases x with
  | lst xs =>
    cases y with
    | int k =>
      obtain ⟨⟨z1, z2, hz⟩, h2⟩ := ite_inv h2
      obtain ⟨q, vs, rfl, hq, _, hc⟩ := o1.cn
      obtain rfl : u = .int k := o2.rep
      refine ⟨q, k, vs, rfl, rfl, hq, z1, z2, line_ok (by rw [hc.1.length]; exact hz), fun n hn => ?_⟩
      refine fin_lst g (e := .rep a b) s ok (tupC_le9 _) rfl rfl hn (EL.clo (tupC_two _) ?_) h2
      rw [tupC_id hm]
      refine ⟨RepL.repl _ hc.1, fun e => ?_⟩
      have hp := hc.2 e
      generalize k.toNat = j
      induction j with
      | zero => rfl
      | succ j ih =>
        rw [List.replicate_succ, List.flatten_cons]
        refine pureL_of fun i d ei => ?_
        by_cases hi : i < xs.length
        · rw [List.getElem?_append_left hi] at ei; exact pureL_get hp ei
        · rw [List.getElem?_append_right (by omega)] at ei; exact pureL_get ih ei
    | _ => exact h2.elim
  | _ => exact h2.elim
theorem s_tup {es : Es} {xs : List Expr} {k : Nat} (h : PA X xs (tEs p G rc W es)) : PE X (.Tuple xs k pos) (tE p G rc W (.tup es)) := by
  refine (pe_tup h).imp fun σ H Q h => ?_
  obtain ⟨env, fl, A, er, h⟩ := h
  refine ⟨env, fl, A, er, (Rs.bind h).mono fun ds _ h vs H1 s el => ?_⟩
  obtain ⟨hz, h⟩ := ite_inv h
  have hl : vs.length = ds.length := let ⟨_, _, hl, _⟩ := el; hl
  have hm := Es.cls_le g.rcl es fl
  exact ⟨line_ok (by rw [hl]; exact hz), fun n hn => fin_tup g (e := .tup es) (W := W) (G := G) (σ := σ) s er.ok (tupC_two _) rfl rfl hn (el.cloL er.ok hm) (Rs.same s h)⟩
theorem s_lst {es : Es} {xs : List Expr} (h : PA X xs (tEs p G rc W es)) : PE X (.List xs pos) (tE p G rc W (.lst es)) := by
  refine (pe_lst h).imp fun σ H Q h => ?_
  obtain ⟨env, fl, A, er, h⟩ := h
  refine ⟨env, fl, A, er, (Rs.bind h).mono fun ds _ h vs H1 s el => ?_⟩
  obtain ⟨hz, h⟩ := ite_inv h
  have hl : vs.length = ds.length := let ⟨_, _, hl, _⟩ := el; hl
  have hm := Es.cls_le g.rcl es fl
  exact ⟨line_ok (by rw [hl]; exact hz), fun n hn => fin_lst g (e := .lst es) (W := W) (G := G) (σ := σ) s er.ok hm rfl rfl hn el (Rs.same s h)⟩
theorem s_nil : PA X [] (tEs p G rc W .nil) := pa_nil.imp fun σ H Q ⟨env, fl, A, er, h⟩ => Rs.ok h [] H (fun _ _ e => e) EL.nil
theorem s_cons {es : Es} {x : Expr} {xs : List Expr} (hl : plainX x = true) (h1 : PE X x (tE p G rc W e)) (h2 : PA X xs (tEs p G rc W es)) : PA X (x :: xs) (tEs p G rc W (.cons e es)) := by
  refine (pa_cons h1 h2 (star_cons hl)).imp fun σ H Q h => ?_
  obtain ⟨env, fl, A, er, h⟩ := h
  refine ⟨env, fl, A, er, (Rs.bind h).mono fun d _ h v H1 s1 val _ => ?_⟩
  obtain ⟨tn, f, cl⟩ := val
  refine ⟨env, fl, A.plus tn, er.plus s1 f, (Rs.bind (Rs.same s1 h)).mono fun ds _ h vs H2 s2 el => ?_⟩
  exact Rs.ok h _ H2 (s1.trans s2) (EL.cons (E.cls_le g.rcl e fl) (Es.cls_le g.rcl es fl) er.ok s1 s2 f cl el)
theorem s_call {f : Nat} {n : Str} {q : Pos} {es : Es} {x : Expr} {xs : List Expr} (hT : T.g f = some n) (hg : glB X.env.scope n = true) (hn : nmB n = true) (hp : ∀ y ∈ x :: xs, plainX y = true) (h : PA X (x :: xs) (tEs p G rc W es)) :
    PE X (.Call (.Name n q) (x :: xs) [] pos) (tE p G rc W (.call f es)) := by
  obtain ⟨adr, fd, ps, e1, e2, e3, F, ar⟩ := g.fn f n hT
  refine (pe_callS (E := WE W) F g.room (gl_of hg) e1 e2 e3 (fun σ => passAt g.tk σ) h (nm_of hn).1 (star_cons (hp x List.mem_cons_self)) (star_any fun y hy => hp y (List.mem_cons_of_mem _ hy))).imp fun σ H Q h => ?_
  obtain ⟨env, fl, A, er, h⟩ := h
  refine ⟨env, fl, A, er, (Rs.bind h).mono fun ds _ h vs H1 s el => ?_⟩
  have hm := Es.cls_le g.rcl es fl
  have cl := el.cloL er.ok hm
  have hl := cl.1.length
  have ns : G f ds ≠ .stuck := Rs.ns h
  refine ⟨by rw [hl]; exact ar ds ns, ds, RepL.keep (Keep.same fun _ _ e => e) (fun _ z => z.elim) ds cl.1, ?_⟩
  have h := Rs.same s h
  cases e : G f ds with
  | stuck => exact absurd e ns
  | exc c fs => rw [e] at h; exact h
  | ok d =>
    rw [e] at h
    intro v H' s' val
    have ok1 := er.ok.same s
    have val2 : Val p (rc f) A H H' d v := by
      obtain ⟨tn, ft, cl⟩ := val
      refine ⟨tn, fun a z => ⟨free_of s (ft a z).1, (ft a z).2⟩, ?_⟩
      have r2 := g.rcl f
      unfold Cl at cl ⊢
      by_cases r9 : rc f = 9
      · rw [if_pos r9] at cl ⊢
        exact ⟨cl.1, Rep.pure d cl.1 cl.2⟩
      · rw [if_neg r9, if_neg (by omega), if_neg (by omega)] at cl ⊢
        exact Own.same _ _ d v (fun _ _ e => e) (fun a z => .inl (z.elim (fun z => .inl (ok1.dom a z)) .inr)) (fun a r z _ => z) cl
    exact h v H' (s.trans s') val2 (val2.cn (g.rcl f).2 er.ok (s.trans s'))
/-! ### built-ins of one value -/
theorem s_len (ha : PE X l (tE p G rc W a)) {x : Str} {q : Pos} (hx : x = "len") (hg : glB X.env.scope x = true) (hl : plainX l = true) : PE X (.Call (.Name x q) [l] [] pos) (tE p G rc W (.len a)) := by
  subst hx
  refine (pe_callB (call_len_seq.or call_len_dT) (gl_of hg) (g.blt _ (by decide)) (by decide +kernel) (pa_cons ha pa_nil (star_cons hl)) (by decide) (by decide) (star_cons hl) rfl).imp fun σ H Q h => ?_
  obtain ⟨env, fl, A, er, h⟩ := h
  refine one g.rcl er h fun x v H1 s ok o1 _ h1 => ?_
  have hc := o1.cn
  cases x with
  | lst xs =>
    obtain ⟨q, vs, rfl, hq, _, cl⟩ := hc
    refine .inl ⟨q, vs, rfl, .inl (SqL.of hq), ?_⟩
    rw [cl.1.length]
    exact h1 _ H1 s (Val.pure (av := nobody) rfl rfl) rfl
  | tup xs =>
    obtain ⟨q, vs, rfl, hq, cl⟩ := hc
    refine .inl ⟨q, vs, rfl, .inr (SqT.of hq), ?_⟩
    rw [cl.1.length]
    exact h1 _ H1 s (Val.pure (av := nobody) rfl rfl) rfl
  | scr xs =>
    obtain ⟨q, rfl, hq⟩ := hc
    refine .inl ⟨q, _, rfl, .inl (by rw [g.kq]; exact hq.seq), ?_⟩
    rw [List.length_map]
    exact h1 _ H1 s (Val.pure (av := nobody) rfl rfl) rfl
  | dic kvs =>
    obtain ⟨q, vs, rfl, hq, _, cl, _⟩ := hc
    refine .inr ⟨q, vs, rfl, hq, ?_⟩
    rw [cl.length]
    exact h1 _ H1 s (Val.pure (av := nobody) rfl rfl) rfl
  | _ => exact h1.elim
theorem s_lstOf (ha : PE X l (tE p G rc W a)) {x : Str} {q : Pos} (hx : x = "list") (hg : glB X.env.scope x = true) (hl : plainX l = true) : PE X (.Call (.Name x q) [l] [] pos) (tE p G rc W (.lstOf a)) := by
  subst hx
  refine (pe_callTy call_list_of (gl_of hg) (g.blt _ (by decide)) (by decide +kernel) (pa_cons ha pa_nil (star_cons hl)) (by decide) (by decide) (star_cons hl) rfl).imp fun σ H Q h => ?_
  obtain ⟨env, fl, A, er, h⟩ := h
  refine one g.rcl er h fun x v H1 s ok o1 _ h1 => ?_
  have hm := E.cct_two (rc := rc) a fl
  have hc := o1.cn
  cases x with
  | lst xs =>
    obtain ⟨q, vs, rfl, hq, _, cl⟩ := hc
    exact ⟨q, vs, rfl, .inl (SqL.of hq), fun n hn => fin_lst g (e := .lstOf a) s ok (tupC_le9 _) rfl rfl hn (EL.clo (tupC_two _) (by rw [tupC_id hm]; exact cl)) h1⟩
  | tup xs =>
    obtain ⟨q, vs, rfl, hq, cl⟩ := hc
    exact ⟨q, vs, rfl, .inr (SqT.of hq), fun n hn => fin_lst g (e := .lstOf a) s ok (tupC_le9 _) rfl rfl hn (EL.clo (tupC_two _) (by rw [tupC_id hm]; exact cl)) h1⟩
  | scr xs =>
    obtain ⟨q, rfl, hq⟩ := hc
    exact ⟨q, _, rfl, .inl (by rw [g.kq]; exact hq.seq), fun n hn => fin_lst g (e := .lstOf a) s ok (tupC_le9 _) rfl rfl hn (EL.clo (tupC_two _) (cloL_ints g xs)) h1⟩
  | _ => exact h1.elim
theorem s_tupOf (ha : PE X l (tE p G rc W a)) {x : Str} {q : Pos} (hx : x = "tuple") (hg : glB X.env.scope x = true) (hl : plainX l = true) : PE X (.Call (.Name x q) [l] [] pos) (tE p G rc W (.tupOf a)) := by
  subst hx
  refine (pe_callTy call_tuple_of (gl_of hg) (g.blt _ (by decide)) (by decide +kernel) (pa_cons ha pa_nil (star_cons hl)) (by decide) (by decide) (star_cons hl) rfl).imp fun σ H Q h => ?_
  obtain ⟨env, fl, A, er, h⟩ := h
  refine one g.rcl er h fun x v H1 s ok o1 _ h1 => ?_
  have hm := E.cct_two (rc := rc) a fl
  have hc := o1.cn
  cases x with
  | lst xs =>
    obtain ⟨q, vs, rfl, hq, _, cl⟩ := hc
    exact ⟨q, vs, rfl, .inl ⟨SqL.of hq, fun n hn => fin_tup g (e := .tupOf a) s ok (tupC_two _) rfl rfl hn (by rw [tupC_id hm]; exact cl) h1⟩⟩
  | tup xs =>
    obtain ⟨q, vs, rfl, hq, cl⟩ := hc
    refine ⟨q, vs, rfl, .inr ⟨SqT.of hq, ?_⟩⟩
    have c : Clo p H1 (a.cct rc fl) A (.tup xs) (.ref q) := ⟨⟨q, vs, rfl, hq, cl.1⟩, fun z => cl.2 z⟩
    refine Rs.ok h1 _ H1 s ?_ ?_
    · show Val p (tupC _) A H H1 _ _
      rw [tupC_id hm]; exact Clo.val' hm c
    · show Cn p H1 (tupC (tupC _)) A _ _
      rw [tupC_id hm, tupC_id hm]; exact c.cn hm (ok.same s)
  | _ => exact h1.elim
theorem s_lrng (ha : PE X l (tE p G rc W a)) {x y : Str} {q q2 pos2 : Pos} (hx : x = "list") (hg : glB X.env.scope x = true) (hy : y = "range") (hg2 : glB X.env.scope y = true) (hl : plainX l = true) :
    PE X (.Call (.Name x q) [.Call (.Name y q2) [l] [] pos2] [] pos) (tE p G rc W (.lrng a)) := by
  subst hx hy
  refine (pe_listRg g.calm (gl_of hg) (g.blt _ (by decide)) (prg_1 (gl_of hg2) (g.blt _ (by decide)) ha (star_cons hl)) (star_cons rfl)).imp fun σ H Q h => ?_
  obtain ⟨env, fl, A, er, h⟩ := h
  refine one g.rcl er (F := fun x => match x with | .int n => if 0 ≤ n ∧ n ≤ line then Res.ok (D.lst (rangeD 0 n)) else .stuck | _ => .stuck) h fun x v H1 s ok o1 _ h1 => ?_
  cases x with
  | int n =>
    obtain rfl : v = .int n := o1.rep
    obtain ⟨⟨h0, hn⟩, h1⟩ := ite_inv h1
    have hl : (line : Int) = 1000000 := rfl
    refine ⟨n, rfl, RgOk.of_le (Int.le_refl 0) (by omega) (by omega) h0, fun z hz => ?_⟩
    have e : rgV 0 n = (rangeD 0 n).map (fun d => match d with | .int i => V.int i | _ => V.non) := by
      unfold rgV rangeD
      rw [List.map_map]; rfl
    have cl : CloL p H1 9 A (rangeD 0 n) (rgV 0 n) := by
      have : rangeD 0 n = ((List.range (n - 0).toNat).map fun i => (0 + (i : Nat) : Int)).map D.int := by unfold rangeD; rw [List.map_map]; rfl
      have e2 : rgV 0 n = ((List.range (n - 0).toNat).map fun i => (0 + (i : Nat) : Int)).map V.int := by unfold rgV; rw [List.map_map]; rfl
      rw [this, e2]
      exact cloL_ints g _
    exact fin_lst g (e := .lrng a) (m := 9) s ok (Nat.le_refl 9) rfl rfl hz (EL.clo (.inr rfl) cl) h1
  | _ => exact h1.elim
theorem s_sum (ha : PE X l (tE p G rc W a)) {x : Str} {q : Pos} (hx : x = "sum") (hg : glB X.env.scope x = true) (hl : plainX l = true) : PE X (.Call (.Name x q) [l] [] pos) (tE p G rc W (.sum a)) := by
  subst hx
  refine (pe_callB (cr_sum g.calm) (gl_of hg) (g.blt _ (by decide)) (by decide +kernel) (pa_cons ha pa_nil (star_cons hl)) (by decide) (by decide) (star_cons hl) rfl).imp fun σ H Q h => ?_
  obtain ⟨env, fl, A, er, h⟩ := h
  refine one g.rcl er h fun x v H1 s ok o1 _ h1 => ?_
  have hc := o1.cn
  cases x with
  | lst xs =>
    obtain ⟨q, vs, rfl, hq, _, cl⟩ := hc
    have h1 : Rs p W σ H1 (match intsOf xs with | some ns => Res.ok (D.int ns.sum) | none => .stuck) _ := h1
    cases e : intsOf xs with
    | none => rw [e] at h1; exact h1.elim
    | some ns =>
      rw [e] at h1
      obtain rfl := RepL.ints e cl.1
      exact ⟨q, ns, rfl, SqL.of hq, h1 _ H1 s (Val.pure (av := nobody) rfl rfl) rfl⟩
  | _ => exact h1.elim
theorem maxOf_spec : ∀ {ns : List Int} {m : Int}, maxOf ns = some m → 0 < ns.length ∧ m ∈ ns ∧ ∀ y ∈ ns, y ≤ m
  | [], m, h => by cases h
  | x :: r, m, h => by
    have h' : (match maxOf r with | none => some x | some y => some (if x < y then y else x)) = some m := h
    cases e : maxOf r with
    | none =>
      rw [e] at h'
      cases h'
      have : r = [] := by
        cases r with
        | nil => rfl
        | cons y r =>
          have q : (match maxOf r with | none => some y | some z => some (if y < z then z else y)) = none := e
          cases e2 : maxOf r with
          | none => rw [e2] at q; cases q
          | some z => rw [e2] at q; cases q
      subst this
      exact ⟨by simp, by simp, fun y hy => by simp at hy; omega⟩
    | some y =>
      rw [e] at h'
      obtain ⟨_, h2, h3⟩ := maxOf_spec e
      have hm : (if x < y then y else x) = m := Option.some.inj h'
      refine ⟨by simp, ?_, fun z hz => ?_⟩
      · rw [← hm]
        split
        · exact List.mem_cons_of_mem _ h2
        · exact List.mem_cons_self
      · rcases List.mem_cons.mp hz with e | hz
        · rw [e, ← hm]; split <;> omega
        · have := h3 z hz
          rw [← hm]; split <;> omega
theorem s_maxL (ha : PE X l (tE p G rc W a)) {x : Str} {q : Pos} (hx : x = "max") (hg : glB X.env.scope x = true) (hl : plainX l = true) : PE X (.Call (.Name x q) [l] [] pos) (tE p G rc W (.maxL a)) := by
  subst hx
  refine (pe_callB (cr_max g.calm) (gl_of hg) (g.blt _ (by decide)) (by decide +kernel) (pa_cons ha pa_nil (star_cons hl)) (by decide) (by decide) (star_cons hl) rfl).imp fun σ H Q h => ?_
  obtain ⟨env, fl, A, er, h⟩ := h
  refine one g.rcl er h fun x v H1 s ok o1 _ h1 => ?_
  have hc := o1.cn
  cases x with
  | lst xs =>
    obtain ⟨q, vs, rfl, hq, _, cl⟩ := hc
    have h1 : Rs p W σ H1 (match intsOf xs with | some ns => (match maxOf ns with | some m => Res.ok (D.int m) | none => .stuck) | none => .stuck) _ := h1
    cases e : intsOf xs with
    | none => rw [e] at h1; exact h1.elim
    | some ns =>
      rw [e] at h1
      obtain rfl := RepL.ints e cl.1
      have h1 : Rs p W σ H1 (match maxOf ns with | some m => Res.ok (D.int m) | none => .stuck) _ := h1
      cases em : maxOf ns with
      | none => rw [em] at h1; exact h1.elim
      | some m =>
        rw [em] at h1
        obtain ⟨hp, hi, hb⟩ := maxOf_spec g em
        refine ⟨q, ns, rfl, SqL.of hq, hp, fun m' hm' hle => ?_⟩
        have : m' = m := by
          have h2 := hb m' hm'
          have h3 := hle m hi
          omega
        subst this
        exact h1 _ H1 s (Val.pure (av := nobody) rfl rfl) rfl
  | _ => exact h1.elim
theorem s_isI {ty : Ty} (ha : PE X l (tE p G rc W a)) {x y : Str} {q q2 : Pos} (hx : x = "isinstance") (hg : glB X.env.scope x = true) (hy : y = ty.nm) (hg2 : glB X.env.scope y = true) (hl : plainX l = true) :
    PE X (.Call (.Name x q) [l, .Name y q2] [] pos) (tE p G rc W (.isI ty a)) := by
  subst hx hy
  have hn : X.mg ty.nm = none := g.blt _ (by cases ty <;> decide)
  have hv : bootBuiltins ty.nm = some (.type ty.name) := by cases ty <;> decide +kernel
  have hty : PE X (.Name ty.nm q2) (tC (.ty ty.name)) := pe_bltn (gl_of hg2) hn hv rfl (by cases ty <;> decide) (by cases ty <;> decide)
  refine (pe_callB call_isi (gl_of hg) (g.blt _ (by decide)) (by decide +kernel) (pa_cons ha (pa_cons hty pa_nil (star_cons rfl)) (star_cons hl)) (by decide) (by decide) (star_cons hl) (star_any fun e he => by rw [List.mem_singleton.mp he]; rfl)).imp fun σ H Q h => ?_
  obtain ⟨env, fl, A, er, h⟩ := h
  refine one g.rcl er h fun x v H1 s ok o1 _ h1 => ?_
  have fin : ∀ (t : String) (bb : Bool), TyX X.K H1 v (.type t) → kitB t ty.name = some bb → isTy ty x = .ok (.bl bb) → rIsi X.K [v, .ty ty.name] H1 Q := fun t bb tx hk e => by
    rw [e] at h1
    exact ⟨v, .ty ty.name, .type t, .type ty.name, bb, rfl, .ty _, tx, kit_ty hk, h1 _ H1 s (Val.pure (av := nobody) rfl rfl) rfl⟩
  have hr := o1.rep
  cases x with
  | non => obtain rfl : v = .non := hr; cases ty <;> exact fin "NoneType" _ (.base .non) (by decide +kernel) rfl
  | bl i => obtain rfl : v = .bl i := hr; cases ty <;> exact fin "bool" _ (.base (.bl i)) (by decide +kernel) rfl
  | int i => obtain rfl : v = .int i := hr; cases ty <;> exact fin "int" _ (.base (.int i)) (by decide +kernel) rfl
  | str i => obtain rfl : v = .str i := hr; cases ty <;> exact fin "str" _ (.base (.str i)) (by decide +kernel) rfl
  | tup ds => obtain ⟨q, vs, rfl, hq, _⟩ := hr; cases ty <;> exact fin "tuple" _ (.base (.tup hq)) (by decide +kernel) rfl
  | lst ds => obtain ⟨q, vs, rfl, hq, _⟩ := hr; cases ty <;> exact fin "list" _ (.base (.lst hq)) (by decide +kernel) rfl
  | dic ds => obtain ⟨q, vs, rfl, hq, _⟩ := hr; cases ty <;> exact fin "dict" _ (.base (.dT hq)) (by decide +kernel) rfl
  | scr ds => cases ty <;> exact h1.elim
  | obj ds => cases ty <;> exact h1.elim
  | exc ds => cases ty <;> exact h1.elim
end
end Tr

/-! zip of a tuple and a list. -/
namespace Tr
open PySem PySem.Spec PyProof.Rows L2
/-- the tuple at a, the list at b, place by place -/
def ItzM (K : PySem.W.Frag) (a b : Addr) : L2.It where
  go := fun n H => ∃ (us ws : List V) (u w : V), SqT K H a us ∧ us[n]? = some u ∧ SqL K H b ws ∧ ws[n]? = some w
  yld := fun n H v H' => ∃ T u w, H T = none ∧ v = .ref T ∧ H' = upd H T (.tup [u, w]) ∧ (∀ us, SqT K H a us → us[n]? = some u) ∧ ∀ ws, SqL K H b ws → ws[n]? = some w
  stop := fun n H => ∃ us ws : List V, SqT K H a us ∧ SqL K H b ws ∧ n = min us.length ws.length
theorem apart_M (S l1 l2 : Addr) (h1 : l1 < S) (h2 : l2 < S) : ZipSep2 (S + 4) (S + 2) (S + 3) S (S + 1) [S, l1] [S + 1, l2] := by
  have n1 : ∀ k : Nat, l1 ≠ S + k := fun k e => absurd h1 (by rw [e]; exact Nat.not_lt.mpr (Nat.le_add_right S k))
  have n2 : ∀ k : Nat, l2 ≠ S + k := fun k e => absurd h2 (by rw [e]; exact Nat.not_lt.mpr (Nat.le_add_right S k))
  have d : ∀ j k : Nat, j ≠ k → S + j ≠ S + k := fun j k e z => e (Nat.add_left_cancel z)
  have m : ∀ {c x y : Addr}, c ≠ x → c ≠ y → c ∉ [x, y] := fun e1 e2 z => (List.mem_cons.mp z).elim e1 fun z => e2 (List.mem_singleton.mp z)
  exact ⟨d 2 4 (by decide), d 3 4 (by decide), d 2 3 (by decide), d 2 0 (by decide), List.mem_cons_self, m (d 4 0 (by decide)) (n1 4).symm, m (d 3 0 (by decide)) (n1 3).symm,
    d 2 1 (by decide), List.mem_cons_self, m (d 4 1 (by decide)) (n2 4).symm, m (d 3 1 (by decide)) (n2 3).symm, m (d 0 1 (by decide)) (n2 0).symm, m (d 1 0 (by decide)) (n1 1).symm⟩
/-- the five cells of the walk -/
abbrev fpM (z TI TO i1 i2 : Addr) : List Addr := [z, TI, TO, i1, i2]
theorem turn_M {P : Program} {w : World} {K : PySem.W.Frag} {elts : List Expr} {kk : Nat} {tpos : Pos} {a b z TI TO i1 i2 : Addr} (S : ZipSep2 z TI TO i1 i2 [i1, a] [i2, b]) :
    Turn P w K (.Tuple elts kk tpos) (ItzM K a b) (fpM z TI TO i1 i2) z (fun n h => IsZip h z TI TO .none ∧ IsTupOf2 h TI (.ref i1) (.ref i2) ∧ (∃ x y, IsTupOf2 h TO x y) ∧ h.IsTupleIter i1 a n ∧ h.IsListIter i2 b n) where
  mem := List.mem_cons_self
  obj := fun n h st c hc => by
    obtain ⟨hz, hTI, ⟨x, y, hTO⟩, ⟨o1, e1, _, f1⟩, ⟨o2, e2, _, f2⟩⟩ := st
    simp only [List.mem_cons, List.not_mem_nil, or_false] at hc
    rcases hc with rfl | rfl | rfl | rfl | rfl
    · exact ⟨_, hz, fun v q => by cases q⟩
    · exact ⟨_, hTI, fun v q => by cases q⟩
    · exact ⟨_, hTO, fun v q => by cases q⟩
    · exact ⟨o1, e1, fun v q => by rw [q] at f1; cases f1⟩
    · exact ⟨o2, e2, fun v q => by rw [q] at f2; cases f2⟩
  keep := fun n h h' st k => by
    obtain ⟨hz, hTI, ⟨x, y, hTO⟩, s1, s2⟩ := st
    have m1 : i1 ∈ fpM z TI TO i1 i2 := by simp
    have m2 : i2 ∈ fpM z TI TO i1 i2 := by simp
    exact ⟨k z List.mem_cons_self _ hz, k TI (by simp) _ hTI, ⟨x, y, k TO (by simp) _ hTO⟩, s1.at fun o q => k _ m1 o q, s2.at fun o q => k _ m2 o q⟩
  item := by
    rintro X rfl rfl rfl hcalm n pins s σ H E I hf ⟨hz, hTI, ⟨x0, y0, hTO⟩, s1, s2⟩ ⟨us, ws, x, y, qx, hx, qy, hy⟩
    obtain ⟨its, rv, p1, _⟩ := I.tuple qx
    obtain ⟨its2, rv2, p2, _⟩ := I.list qy
    obtain ⟨u, hu, ru⟩ := rv.get hx
    obtain ⟨u2, hu2, ru2⟩ := rv2.get hy
    have na : a ≠ i1 := fun e => by
      obtain ⟨oa, ea, ca, _⟩ := id p1
      obtain ⟨o1, e1, c1, _⟩ := id s1
      rw [e, e1] at ea; cases ea; rw [c1] at ca; simp at ca
    have nb : b ≠ i2 := fun e => by
      obtain ⟨ob, eb, cb, _⟩ := id p2.isList
      obtain ⟨o2, e2, c2, _⟩ := id s2
      rw [e, e2] at eb; cases eb; rw [c2] at cb; simp at cb
    have l1 : n < its.toArray.size := by rw [List.size_toArray]; exact (List.getElem?_eq_some_iff.mp hu).1
    have l2 : n < its2.toArray.size := by rw [List.size_toArray]; exact (List.getElem?_eq_some_iff.mp hu2).1
    have zl : z < s.heap.objs.size := Heap.lt_size hz
    have hd : X.A.in1.handled = none := I.ok.hd hcalm
    refine wpAny_pyNext_zipD2_item S (Draws.tuple hd i1 a na its.toArray) (Draws.list hd i2 b nb its2.toArray) hz hTI hTO ⟨s1, p1⟩ ⟨s2, p2.isList⟩ l1 l2 fun v1 v2 h' tk e1 e2 z' TO' t1 t2 hT hsz hk => ?_
    have ev1 : v1 = u := by
      have := e1.symm.trans (show its.toArray[n]? = some u by simpa using hu)
      exact Option.some.inj this
    have ev2 : v2 = u2 := by
      have := e2.symm.trans (show its2.toArray[n]? = some u2 by simpa using hu2)
      exact Option.some.inj this
    subst ev1 ev2
    refine ⟨_, rfl, wpAny_letOwnedTupleGo_zip (s := { s with heap := h', toks := tk }) z' fun h2 z2 sb => ?_⟩
    have gT : h2.get? s.heap.objs.size = some { cls := .type "tuple", data := .seq #[v1, v2] } := (sb.2 _ fun e => Nat.lt_irrefl z (by rw [e] at zl; exact zl)).trans hT
    have made : ObjOk X.prog X.w (upd H s.heap.objs.size (.tup [x, y])) h2 s.heap.objs.size (.tup [x, y]) :=
      ⟨by show 2 ≤ sizeLine; rw [sizeLine_eq]; decide, [v1, v2], .cons ru (.cons ru2 .nil), ⟨_, gT, rfl, _, rfl⟩⟩
    have kp : ∀ c o, c ∉ fpM z TI TO i1 i2 → s.heap.get? c = some o → h2.get? c = some o := fun c o hc q => by
      simp only [List.mem_cons, List.not_mem_nil, or_false, not_or] at hc
      exact (sb.2 c hc.1).trans (hk c o hc.1 hc.2.2.1 hc.2.2.2.1 hc.2.2.2.2 q)
    have I1 : Inv X pins σ (upd H s.heap.objs.size (.tup [x, y])) { s with heap := h2, toks := tk } := I.turnedNew (t' := tk) kp hf (Nat.le_refl _) made
    refine ⟨.ref s.heap.objs.size, _, I1, rfl, ⟨_, x, y, I.hok.fresh (Nat.le_refl _), rfl, rfl, fun l hl => by rw [I.tuple_inj hl qx]; exact hx, fun l hl => by rw [I.list_inj hl qy]; exact hy⟩, ⟨z2, ?_, ⟨v1, v2, ?_⟩, ?_, ?_⟩, fun c hc => ?_⟩
    · exact (sb.2 _ S.TIz).trans (hk TI _ S.TIz S.TITO S.TIi1 S.TIi2 hTI)
    · exact (sb.2 _ S.TOz).trans TO'
    · exact t1.1.at fun o q => (sb.2 _ S.zi1.symm).trans q
    · exact t2.1.at fun o q => (sb.2 _ S.zi2.symm).trans q
    · have lt : c < s.heap.objs.size := by
        obtain ⟨o1, g1, _⟩ := s1
        obtain ⟨o2, g2, _⟩ := s2
        simp only [List.mem_cons, List.not_mem_nil, or_false] at hc
        rcases hc with rfl | rfl | rfl | rfl | rfl <;> exact Heap.lt_size (by assumption)
      rw [upd_ne (Nat.ne_of_lt lt)]
      exact (hf c hc).1
  done := by
    rintro X rfl rfl rfl hcalm n pins s σ H E I hf ⟨hz, hTI, ⟨x0, y0, hTO⟩, s1, s2⟩ ⟨us, ws, qx, qy, hend⟩
    obtain ⟨its, rv, p1, _⟩ := I.tuple qx
    obtain ⟨its2, rv2, p2, _⟩ := I.list qy
    have na : a ≠ i1 := fun e => by
      obtain ⟨oa, ea, ca, _⟩ := id p1
      obtain ⟨o1, e1, c1, _⟩ := id s1
      rw [e, e1] at ea; cases ea; rw [c1] at ca; simp at ca
    have nb : b ≠ i2 := fun e => by
      obtain ⟨ob, eb, cb, _⟩ := id p2.isList
      obtain ⟨o2, e2, c2, _⟩ := id s2
      rw [e, e2] at eb; cases eb; rw [c2] at cb; simp at cb
    have hd : X.A.in1.handled = none := I.ok.hd hcalm
    have n1 := rv.length
    have n2 := rv2.length
    refine wpAny_pyNext_zipD2_end S (Draws.tuple hd i1 a na its.toArray) (Draws.list hd i2 b nb its2.toArray) hz hTI hTO ⟨s1, p1⟩ ⟨s2, p2.isList⟩ (by rw [List.size_toArray]; omega) (by rw [List.size_toArray]; omega) (by rw [List.size_toArray, List.size_toArray]; omega) fun h' tk hk => ⟨rfl, I.turnedL (t' := tk) (ch := fpM z TI TO i1 i2) (fun c o hc q => ?_) hf⟩
    simp only [List.mem_cons, List.not_mem_nil, or_false, not_or] at hc
    exact hk c o hc.1 hc.2.2.1 hc.2.2.2.1 hc.2.2.2.2 q
  self := fun A n s Q E st q => wpAny_pyIter_zip st.1 q
def iZipM (K : PySem.W.Frag) (ta : TA) : TI := fun σ H R => ta σ H fun vs H1 => ∃ (a b : Addr) (us ws : List V), vs = [.ref a, .ref b] ∧ SqT K H1 a us ∧ SqL K H1 b ws ∧ R (ItzM K a b) H1
theorem pi_zipM {X : Cx} {e e2 : Expr} {ta : TA} {p pos tpos : Pos} {elts : List Expr} {kk : Nat} (hg : Gl X "zip") (hm : X.mg "zip" = none) (ha : PA X [e, e2] ta) (hs : starEach [e, e2] X.env = (false, eval e X.env) :: starEach [e2] X.env)
    (hp : (backTo pos (starEach [e2] X.env)).any (·.1) = false) : PI X (.Tuple elts kk tpos) (.Call (.Name "zip" p) [e, e2] [] pos) (iZipM X.K ta) := by
  refine ⟨fun pins s σ H R I h => Call_ (ld_blt I hg hm PyProof.Rows.boot_zip (PyProof.Rows.callWith_type1 (thn (ha.run pos pins s σ H _ I h) ?_) hs hp))⟩
  rintro vals s1 ⟨vs, H1, I1, r1, a, b, us, ws, rfl, qx, qy, q⟩
  obtain ⟨v1, v2, rfl, r1, r2⟩ := r1.two
  cases r1
  cases r2
  obtain ⟨its, rv, p1, _⟩ := I1.tuple qx
  obtain ⟨its2, rv2, p2, _⟩ := I1.list qy
  obtain ⟨o1, g1, _⟩ := id p1
  obtain ⟨o2, g2, _⟩ := id p2.isList
  have new : ∀ c ∈ fpM (s1.heap.objs.size + 4) (s1.heap.objs.size + 2) (s1.heap.objs.size + 3) s1.heap.objs.size (s1.heap.objs.size + 1), FpOk X pins H1 c := fun c hc => by
    have le : s1.heap.objs.size ≤ c := by
      simp only [List.mem_cons, List.not_mem_nil, or_false] at hc
      rcases hc with rfl | rfl | rfl | rfl | rfl
      · exact Nat.le_add_right _ _
      · exact Nat.le_add_right _ _
      · exact Nat.le_add_right _ _
      · exact Nat.le_refl _
      · exact Nat.le_add_right _ _
    exact I1.fpOk le (I1.hok.fresh le)
  refine zip_begins2 (begins_tuple a its.toArray) (begins_list b its2.toArray) p1 p2.isList fun h' hz hTI hTO e1 e2 hsz hk => wpAny_pyIter_zip hz ?_
  exact ⟨_, _, _, _, H1, rfl, I1.kept (t' := s1.toks) hk, turn_M (apart_M s1.heap.objs.size a b (Heap.lt_size g1) (Heap.lt_size g2)), ⟨hz, hTI, ⟨_, _, hTO⟩, ⟨_, e1, rfl, rfl⟩, ⟨_, e2, rfl, rfl⟩⟩, new, q⟩
end Tr

/-! What is walked; comprehensions. -/
namespace Tr
open PySem PySem.Spec PyProof.Rows L2
section
variable {X : Cx} {p : Pm} {T : Nm} {G : Gam} {rc : Nat → Nat} {kk : Nat} {W : WX} {a b c e : E} {l r t : Expr} {pos : Pos}
/-- an iterator gives these trees, while its sources stand -/
def Walk (p : Pm) (J : L2.It) (ds : List D) (srcs : List (D × V)) : Prop := ∀ (m : Nat) (A : Avs) (H : Hp), (m ≤ 2 ∨ m = 9) → A.Ok H → (∀ s ∈ srcs, Cn p H m A s.1 s.2) →
  (∀ i d, ds[i]? = some d → J.go i H ∧ ∀ x H', J.yld i H x H' → Same H H' ∧ Clo p H' m A d x) ∧ J.stop ds.length H
theorem walk_lst {d : D} {v : V} {ds : List D} {q : Addr} (hk : X.K = p.K) (hd : d = .lst ds ∨ ∃ xs, d = .scr xs ∧ ds = xs.map D.int) (hv : v = .ref q) : Walk p (Itl X.K q) ds [(d, v)] := by
  subst hv
  intro m A H hm ok hs
  have h := hs _ List.mem_cons_self
  obtain ⟨vs, hq, cl⟩ : ∃ vs, SqL X.K H q vs ∧ CloL p H m A ds vs := by
    rcases hd with rfl | ⟨xs, rfl, rfl⟩
    · obtain ⟨q', vs, e, hq, _, cl⟩ := h
      cases e
      exact ⟨vs, SqL.of hq, cl⟩
    · obtain ⟨q', e, hq⟩ := h
      cases e
      refine ⟨_, by rw [hk]; exact hq.seq, repL_ints xs, fun _ => pureL_of fun j d e => ?_⟩
      rw [List.getElem?_map] at e
      cases q : xs[j]? with
      | none => rw [q] at e; cases e
      | some i => rw [q] at e; cases e; rfl
  refine ⟨fun i d e => ?_, vs, hq, Nat.le_of_eq cl.1.length⟩
  obtain ⟨w, ew, c⟩ := cl.get e
  refine ⟨⟨vs, w, hq, ew⟩, fun x H' y => ?_⟩
  obtain ⟨rfl, y⟩ := y
  have := y vs hq
  rw [ew] at this; cases this
  exact ⟨fun _ _ e => e, c⟩
theorem walk_tup {ds : List D} {q : Addr} : Walk p (Itt X.K q) ds [(.tup ds, .ref q)] := by
  intro m A H hm ok hs
  have h := hs _ List.mem_cons_self
  obtain ⟨q', vs, e, hq, cl⟩ := h
  cases e
  refine ⟨fun i d e => ?_, vs, SqT.of hq, Nat.le_of_eq cl.1.length⟩
  obtain ⟨w, ew, c⟩ := cl.get e
  refine ⟨⟨vs, w, SqT.of hq, ew⟩, fun x H' y => ?_⟩
  obtain ⟨rfl, y⟩ := y
  have := y vs (SqT.of hq)
  rw [ew] at this; cases this
  exact ⟨fun _ _ e => e, c⟩
theorem walk_rng {lo hi : Int} : Walk p (Itr lo (hi - lo).toNat) (rangeD lo hi) [] := by
  intro m A H hm ok hs
  refine ⟨fun i d e => ?_, ?_⟩
  · unfold rangeD at e
    rw [List.getElem?_map] at e
    cases q : (List.range (hi - lo).toNat)[i]? with
    | none => rw [q] at e; cases e
    | some j =>
      rw [q] at e
      cases e
      obtain ⟨h1, h2⟩ := List.getElem?_eq_some_iff.mp q
      rw [List.length_range] at h1
      rw [List.getElem_range] at h2
      subst h2
      refine ⟨h1, fun x H' y => ?_⟩
      obtain ⟨rfl, rfl⟩ := y
      exact ⟨fun _ _ e => e, rfl, fun _ => rfl⟩
  · show _ ≤ _
    unfold rangeD
    rw [List.length_map, List.length_range]
    exact Nat.le_refl _
theorem clo_pair {H : Hp} {A : Avs} {m : Nat} {T : Addr} {d d' : D} {x y : V} (hT : H T = none) (h1 : Clo p H m A d x) (h2 : Clo p H m A d' y) : Clo p (upd H T (.tup [x, y])) m A (.tup [d, d']) (.ref T) := by
  have s := same_upd (o := .tup [x, y]) hT
  refine ⟨⟨T, [x, y], rfl, upd_same, x, [y], rfl, h1.1.same s, y, [], rfl, h2.1.same s, rfl⟩, fun e => ?_⟩
  show (d.pure && (d'.pure && true)) = true
  rw [h1.2 e, h2.2 e]; rfl
theorem walk_enum {ds : List D} {q : Addr} : Walk p (Ite X.K q) (ds.zipIdx.map fun z => D.tup [.int z.2, z.1]) [(.lst ds, .ref q)] := by
  intro m A H hm ok hs
  have h := hs _ List.mem_cons_self
  obtain ⟨q', vs, e, hq, _, cl⟩ := h
  cases e
  refine ⟨fun i d e => ?_, vs, SqL.of hq, by rw [List.length_map, List.length_zipIdx]; exact Nat.le_of_eq cl.1.length⟩
  rw [List.getElem?_map, List.getElem?_zipIdx] at e
  cases ei : ds[i]? with
  | none => rw [ei] at e; cases e
  | some d0 =>
    rw [ei] at e
    simp at e
    subst e
    obtain ⟨w, ew, c⟩ := cl.get ei
    refine ⟨⟨vs, w, SqL.of hq, ew⟩, fun x H' y => ?_⟩
    obtain ⟨T, x', rfl, hT, rfl, y⟩ := y
    have := y vs (SqL.of hq)
    rw [ew] at this; cases this
    exact ⟨same_upd hT, clo_pair hT ⟨rfl, fun _ => rfl⟩ c⟩
theorem walk_zip {ds es : List D} {q q' : Addr} : Walk p (Itz X.K q q') ((ds.zip es).map fun z => D.tup [z.1, z.2]) [(.lst ds, .ref q), (.lst es, .ref q')] := by
  intro m A H hm ok hs
  obtain ⟨_, vs, e, hq, _, cl⟩ := hs _ List.mem_cons_self
  cases e
  obtain ⟨_, ws, e, hq', _, cl'⟩ := hs _ (List.mem_cons_of_mem _ List.mem_cons_self)
  cases e
  refine ⟨fun i d e => ?_, vs, ws, SqL.of hq, SqL.of hq', ?_⟩
  · rw [List.getElem?_map] at e
    cases ei : (ds.zip es)[i]? with
    | none => rw [ei] at e; cases e
    | some z =>
      rw [ei] at e
      simp at e
      subst e
      rw [List.getElem?_zip_eq_some] at ei
      obtain ⟨w, ew, c⟩ := cl.get ei.1
      obtain ⟨w', ew', c'⟩ := cl'.get ei.2
      refine ⟨⟨vs, ws, w, w', SqL.of hq, SqL.of hq', ew, ew'⟩, fun x H' y => ?_⟩
      obtain ⟨T, x', y', rfl, hT, rfl, y1, y2⟩ := y
      have := y1 vs (SqL.of hq)
      rw [ew] at this; cases this
      have := y2 ws (SqL.of hq')
      rw [ew'] at this; cases this
      exact ⟨same_upd hT, clo_pair hT c c'⟩
  · rw [List.length_map, List.length_zip, cl.1.length, cl'.1.length]
    omega
theorem walk_zipM {ds es : List D} {q q' : Addr} : Walk p (ItzM X.K q q') ((ds.zip es).map fun z => D.tup [z.1, z.2]) [(.tup ds, .ref q), (.lst es, .ref q')] := by
  intro m A H hm ok hs
  obtain ⟨_, vs, e, hq, cl⟩ := hs _ List.mem_cons_self
  cases e
  obtain ⟨_, ws, e, hq', _, cl'⟩ := hs _ (List.mem_cons_of_mem _ List.mem_cons_self)
  cases e
  refine ⟨fun i d e => ?_, vs, ws, SqT.of hq, SqL.of hq', ?_⟩
  · rw [List.getElem?_map] at e
    cases ei : (ds.zip es)[i]? with
    | none => rw [ei] at e; cases e
    | some z =>
      rw [ei] at e
      simp at e
      subst e
      rw [List.getElem?_zip_eq_some] at ei
      obtain ⟨w, ew, c⟩ := cl.get ei.1
      obtain ⟨w', ew', c'⟩ := cl'.get ei.2
      refine ⟨⟨vs, ws, w, w', SqT.of hq, ew, SqL.of hq', ew'⟩, fun x H' y => ?_⟩
      obtain ⟨T, x', y', hT, rfl, rfl, y1, y2⟩ := y
      have := y1 vs (SqT.of hq)
      rw [ew] at this; cases this
      have := y2 ws (SqL.of hq')
      rw [ew'] at this; cases this
      exact ⟨same_upd hT, clo_pair hT c c'⟩
  · rw [List.length_map, List.length_zip, cl.1.length, cl'.1.length]
theorem walk_rev {ds : List D} {q : Addr} : Walk p (Itv X.K q ds.length) ds.reverse [(.lst ds, .ref q)] := by
  intro m A H hm ok hs
  obtain ⟨_, vs, e, hq, _, cl⟩ := hs _ List.mem_cons_self
  cases e
  refine ⟨fun i d e => ?_, by show ds.length ≤ ds.reverse.length; rw [List.length_reverse]; exact Nat.le_refl _⟩
  have hi : i < ds.length := by
    have := (List.getElem?_eq_some_iff.mp e).1
    rwa [List.length_reverse] at this
  rw [List.getElem?_reverse hi] at e
  obtain ⟨w, ew, c⟩ := cl.get e
  refine ⟨⟨hi, vs, w, SqL.of hq, ew⟩, fun x H' y => ?_⟩
  obtain ⟨rfl, y⟩ := y
  have := y vs (SqL.of hq)
  rw [ew] at this; cases this
  exact ⟨fun _ _ e => e, c⟩

variable (p G rc W) in
def tIt (it : It) : TI := fun σ H R => ∃ env fl A, Er p A fl env σ H ∧ Rs p W σ H (it.sem G env) fun ds => ∀ J H' srcs, Same H H' → Walk p J ds srcs → (∀ s ∈ srcs, Cn p H' (it.cls rc fl) A s.1 s.2) → (∀ s ∈ srcs, Clo p H' (it.cls0 rc fl) A s.1 s.2) → R J H'
theorem _root_.L2.PI.imp {tg : Expr} {e : Expr} {t t' : TI} (h : PI X tg e t) (w : ∀ σ H Q, t' σ H Q → t σ H Q) : PI X tg e t' := ⟨fun pins s σ H Q I q => h.run pins s σ H Q I (w _ _ _ q)⟩
theorem It.cls_two (it : It) (fl : Fls) : it.cls rc fl ≤ 2 ∨ it.cls rc fl = 9 := by
  cases it <;> first | exact E.cct_two _ _ | exact .inr rfl | exact tupC_two _
theorem Cn.weak {H H0 : Hp} {A : Avs} {m n : Nat} {d : D} {v : V} (hn : n ≤ m) (hm : m ≤ 2 ∨ m = 9) (hn2 : n ≤ 2 ∨ n = 9) (ok : A.Ok H0) (h : Cn p H m A d v) : Cn p H n A d v := by
  have av : ∀ {x : D} {u : V}, Rep p H (A.at m) x u → (m = 9 → x.pure = true) → Rep p H (A.at n) x u := fun h1 h2 => (Clo.weak hn hm hn2 ok ⟨h1, h2⟩).1
  cases d with
  | lst ds => obtain ⟨q, vs, e, hq, n0, cl⟩ := h; exact ⟨q, vs, e, hq, n0, cl.weak hn hm hn2 ok⟩
  | tup ds => obtain ⟨q, vs, e, hq, cl⟩ := h; exact ⟨q, vs, e, hq, cl.weak hn hm hn2 ok⟩
  | dic ds =>
    obtain ⟨q, vs, e, hq, n0, cl, pu⟩ := h
    refine ⟨q, vs, e, hq, n0, ?_, fun e => pu (by omega)⟩
    clear hq e
    induction ds generalizing vs with
    | nil => exact cl
    | cons kd ds ih =>
      obtain ⟨k, d⟩ := kd
      obtain ⟨v, r, rfl, h1, h2⟩ := cl
      exact ⟨v, r, rfl, av h1 fun e => pu e k d List.mem_cons_self, ih r h2 fun e k d hd => pu e k d (List.mem_cons_of_mem _ hd)⟩
  | obj ds =>
    obtain ⟨q, dx, vs, e, hq, n0, cl, pu⟩ := h
    refine ⟨q, dx, vs, e, hq, n0, ?_, fun e => pu (by omega)⟩
    clear hq e
    induction ds generalizing vs with
    | nil => exact cl
    | cons kd ds ih =>
      obtain ⟨k, d⟩ := kd
      obtain ⟨v, r, rfl, h1, h2⟩ := cl
      exact ⟨v, r, rfl, av h1 fun e => absurd e pu, ih r h2⟩
  | _ => exact h
variable (g : Good p T G rc kk W X)
include g
theorem i_lst {tg : Expr} (ha : PE X l (tE p G rc W e)) : PI X tg l (tIt p G rc W (.lst e)) := by
  refine (pi_list ha).imp fun σ H R h => ?_
  obtain ⟨env, fl, A, er, h⟩ := h
  refine one g.rcl er (F := fun d => match d with | .lst xs => .ok xs | .scr xs => .ok (xs.map D.int) | _ => .stuck) h fun x v H1 s ok o1 val h1 => ?_
  have c0 := val.clo' (E.cls_le g.rcl e fl) ok
  have cn := o1.cn
  cases x with
  | lst xs =>
    obtain ⟨q, vs, rfl, hq, _, cl⟩ := o1.cn
    exact ⟨q, rfl, ⟨vs, SqL.of hq⟩, h1 _ H1 _ s (walk_lst g.kq (.inl rfl) rfl) (fun s hs => by rw [List.mem_singleton.mp hs]; exact cn) (fun s hs => by rw [List.mem_singleton.mp hs]; exact c0)⟩
  | scr xs =>
    obtain ⟨q, rfl, hq⟩ := o1.rep
    exact ⟨q, rfl, ⟨_, by rw [g.kq]; exact hq.seq⟩, h1 _ H1 _ s (walk_lst g.kq (.inr ⟨xs, rfl, rfl⟩) rfl) (fun s hs => by rw [List.mem_singleton.mp hs]; exact cn) (fun s hs => by rw [List.mem_singleton.mp hs]; exact c0)⟩
  | _ => exact h1.elim
theorem i_tup {tg : Expr} (ha : PE X l (tE p G rc W e)) : PI X tg l (tIt p G rc W (.tup e)) := by
  refine (pi_tup ha).imp fun σ H R h => ?_
  obtain ⟨env, fl, A, er, h⟩ := h
  refine one g.rcl er (F := fun d => match d with | .tup xs => .ok xs | _ => .stuck) h fun x v H1 s ok o1 val h1 => ?_
  have c0 := val.clo' (E.cls_le g.rcl e fl) ok
  have cn := o1.cn
  cases x with
  | tup xs =>
    obtain ⟨q, vs, rfl, hq, cl⟩ := o1.cn
    exact ⟨q, rfl, ⟨vs, SqT.of hq⟩, h1 _ H1 _ s walk_tup (fun s hs => by rw [List.mem_singleton.mp hs]; exact cn) (fun s hs => by rw [List.mem_singleton.mp hs]; exact c0)⟩
  | _ => exact h1.elim
theorem small_of {i : Int} (h : small i = true) : -(2 ^ 62) ≤ i ∧ i < 2 ^ 62 := by
  unfold small at h
  rw [Bool.and_eq_true, decide_eq_true_eq, decide_eq_true_eq] at h
  exact h
theorem i_rng {tg : Expr} (ha : PE X l (tE p G rc W e)) {x : Str} {q : Pos} (hx : x = "range") (hg : glB X.env.scope x = true) (hl : plainX l = true) : PI X tg (.Call (.Name x q) [l] [] pos) (tIt p G rc W (.rng e)) := by
  subst hx
  refine (pi_range1 (gl_of hg) (g.blt _ (by decide)) (pa_cons ha pa_nil (star_cons hl)) (star_cons hl)).imp fun σ H R h => ?_
  obtain ⟨env, fl, A, er, h⟩ := h
  refine one g.rcl er (F := fun d => match d with | .int n => if small n = true then .ok (rangeD 0 n) else .stuck | _ => .stuck) h fun x v H1 s ok o1 val h1 => ?_
  cases x with
  | int n =>
    obtain rfl : v = .int n := o1.rep
    obtain ⟨hs, h1⟩ := ite_inv h1
    obtain ⟨z1, z2⟩ := small_of g hs
    refine ⟨n, rfl, z1, z2, ?_⟩
    have := h1 (Itr 0 (n - 0).toNat) H1 [] s walk_rng (fun s hs => nomatch hs) (fun s hs => nomatch hs)
    rw [Int.sub_zero] at this
    exact this
  | _ => exact h1.elim
theorem i_rng2 {tg : Expr} (ha : PE X l (tE p G rc W a)) (hb : PE X r (tE p G rc W b)) {x : Str} {q : Pos} (hx : x = "range") (hg : glB X.env.scope x = true) (hl : plainX l = true) (hr : plainX r = true) : PI X tg (.Call (.Name x q) [l, r] [] pos) (tIt p G rc W (.rng2 a b)) := by
  subst hx
  refine (pi_range2 (gl_of hg) (g.blt _ (by decide)) (pa_cons ha (pa_cons hb pa_nil (star_cons hr)) (star_cons hl)) (by rw [star_cons hl, star_cons hr]; rfl) (by rw [star_cons hr]; rfl)).imp fun σ H R h => ?_
  obtain ⟨env, fl, A, er, h⟩ := h
  refine two g.rcl er (F := fun x y => match x, y with | .int m, .int n => if small m = true ∧ small n = true then .ok (rangeD m n) else .stuck | _, _ => .stuck) h fun x y v u H2 s ok o1 o2 h2 => ?_
  cases x with
  | int m =>
    cases y with
    | int n =>
      obtain rfl : v = .int m := o1.rep
      obtain rfl : u = .int n := o2.rep
      obtain ⟨⟨hs, hs'⟩, h2⟩ := ite_inv h2
      obtain ⟨z1, z2⟩ := small_of g hs
      obtain ⟨z3, z4⟩ := small_of g hs'
      exact ⟨m, n, rfl, ⟨z1, z2, z3, z4⟩, h2 (Itr m (n - m).toNat) H2 [] s walk_rng (fun s hs => nomatch hs) (fun s hs => nomatch hs)⟩
    | _ => exact h2.elim
  | _ => exact h2.elim
theorem i_enum {ts : List Expr} {k : Nat} {tp : Pos} (ha : PE X l (tE p G rc W e)) {x : Str} {q : Pos} (hx : x = "enumerate") (hg : glB X.env.scope x = true) (hl : plainX l = true) : PI X (.Tuple ts k tp) (.Call (.Name x q) [l] [] pos) (tIt p G rc W (.enum e)) := by
  subst hx
  refine (pi_enum (gl_of hg) (g.blt _ (by decide)) (pa_cons ha pa_nil (star_cons hl)) (star_cons hl)).imp fun σ H R h => ?_
  obtain ⟨env, fl, A, er, h⟩ := h
  refine one g.rcl er (F := fun d => match d with | .lst xs => .ok (xs.zipIdx.map fun p => D.tup [.int p.2, p.1]) | _ => .stuck) h fun x v H1 s ok o1 val h1 => ?_
  have c0 := val.clo' (E.cls_le g.rcl e fl) ok
  have cn := o1.cn
  have hm := E.cct_two (rc := rc) e fl
  cases x with
  | lst xs =>
    obtain ⟨q, vs, rfl, hq, _, cl⟩ := o1.cn
    refine ⟨q, vs, rfl, SqL.of hq, h1 _ H1 _ s walk_enum (fun s hs => ?_) (fun s hs => by rw [List.mem_singleton.mp hs]; exact c0)⟩
    rw [List.mem_singleton.mp hs]
    show Cn p H1 (tupC (e.cct rc fl)) A _ _
    rw [tupC_id hm]; exact cn
  | _ => exact h1.elim
theorem i_zip {ts : List Expr} {k : Nat} {tp : Pos} (ha : PE X l (tE p G rc W a)) (hb : PE X r (tE p G rc W b)) {x : Str} {q : Pos} (hx : x = "zip") (hg : glB X.env.scope x = true) (hl : plainX l = true) (hr : plainX r = true) : PI X (.Tuple ts k tp) (.Call (.Name x q) [l, r] [] pos) (tIt p G rc W (.zip a b)) := by
  subst hx
  refine (pi_zip (gl_of hg) (g.blt _ (by decide)) (pa_cons ha (pa_cons hb pa_nil (star_cons hr)) (star_cons hl)) (star_cons hl) (star_any fun e he => by rw [List.mem_singleton.mp he]; exact hr)).imp fun σ H R h => ?_
  obtain ⟨env, fl, A, er, h⟩ := h
  refine one g.rcl er (F := fun x => (b.sem G env).bind fun y => match x, y with | .lst xs, .lst ys => .ok ((xs.zip ys).map fun p => D.tup [p.1, p.2]) | _, _ => .stuck) h fun x v H1 s1 ok o1 val1 h1 => ?_
  refine one g.rcl (er.same s1) (F := fun y => match x, y with | .lst xs, .lst ys => .ok ((xs.zip ys).map fun p => D.tup [p.1, p.2]) | _, _ => .stuck) h1 fun y u H2 s2 ok2 o2 val2 h2 => ?_
  have s := s1.trans s2
  have hm1 := E.cct_two (rc := rc) a fl
  have hm2 := E.cct_two (rc := rc) b fl
  have hmm : min (a.cct rc fl) (b.cct rc fl) ≤ 2 ∨ min (a.cct rc fl) (b.cct rc fl) = 9 := by omega
  have l1 := E.cls_le g.rcl a fl
  have l2 := E.cls_le g.rcl b fl
  have ll : min (a.cls rc fl) (b.cls rc fl) ≤ 9 := Nat.le_trans (Nat.min_le_left _ _) l1
  have c1 := (Val.weak (Nat.min_le_left (a.cls rc fl) (b.cls rc fl)) l1 ok (val1.same s2)).clo' ll ok
  have c2 := (Val.weak (Nat.min_le_right (a.cls rc fl) (b.cls rc fl)) l2 ok2 val2).clo' ll ok2
  cases x with
  | lst xs =>
    cases y with
    | lst ys =>
      have cn1 := (o1.same s2).cn
      have cn2 := o2.cn
      obtain ⟨q, vs, rfl, hq, _, cl⟩ := (o1.same s2).cn
      obtain ⟨q', ws, rfl, hq', _, cl'⟩ := o2.cn
      refine ⟨q, q', vs, ws, rfl, SqL.of hq, SqL.of hq', h2 _ H2 _ s walk_zip (fun s hs => ?_) (fun s hs => ?_)⟩
      · show Cn p H2 (tupC (min (a.cct rc fl) (b.cct rc fl))) A _ _
        rw [tupC_id hmm]
        rcases List.mem_cons.mp hs with e | hs
        · rw [e]; exact cn1.weak (Nat.min_le_left _ _) hm1 hmm ok
        · rw [List.mem_singleton.mp hs]; exact cn2.weak (Nat.min_le_right _ _) hm2 hmm ok
      · rcases List.mem_cons.mp hs with e | hs
        · rw [e]; exact c1
        · rw [List.mem_singleton.mp hs]; exact c2
    | _ => exact h2.elim
  | _ => exact h2.elim
theorem i_zipT {ts : List Expr} {k : Nat} {tp : Pos} (ha : PE X l (tE p G rc W a)) (hb : PE X r (tE p G rc W b)) {x : Str} {q : Pos} (hx : x = "zip") (hg : glB X.env.scope x = true) (hl : plainX l = true) (hr : plainX r = true) : PI X (.Tuple ts k tp) (.Call (.Name x q) [l, r] [] pos) (tIt p G rc W (.zipT a b)) := by
  subst hx
  refine (pi_zipM (gl_of hg) (g.blt _ (by decide)) (pa_cons ha (pa_cons hb pa_nil (star_cons hr)) (star_cons hl)) (star_cons hl) (star_any fun e he => by rw [List.mem_singleton.mp he]; exact hr)).imp fun σ H R h => ?_
  obtain ⟨env, fl, A, er, h⟩ := h
  refine one g.rcl er (F := fun x => (b.sem G env).bind fun y => match x, y with | .tup xs, .lst ys => .ok ((xs.zip ys).map fun p => D.tup [p.1, p.2]) | _, _ => .stuck) h fun x v H1 s1 ok o1 val1 h1 => ?_
  refine one g.rcl (er.same s1) (F := fun y => match x, y with | .tup xs, .lst ys => .ok ((xs.zip ys).map fun p => D.tup [p.1, p.2]) | _, _ => .stuck) h1 fun y u H2 s2 ok2 o2 val2 h2 => ?_
  have s := s1.trans s2
  have hm1 := E.cct_two (rc := rc) a fl
  have hm2 := E.cct_two (rc := rc) b fl
  have hmm : min (a.cct rc fl) (b.cct rc fl) ≤ 2 ∨ min (a.cct rc fl) (b.cct rc fl) = 9 := by omega
  have l1 := E.cls_le g.rcl a fl
  have l2 := E.cls_le g.rcl b fl
  have ll : min (a.cls rc fl) (b.cls rc fl) ≤ 9 := Nat.le_trans (Nat.min_le_left _ _) l1
  have c1 := (Val.weak (Nat.min_le_left (a.cls rc fl) (b.cls rc fl)) l1 ok (val1.same s2)).clo' ll ok
  have c2 := (Val.weak (Nat.min_le_right (a.cls rc fl) (b.cls rc fl)) l2 ok2 val2).clo' ll ok2
  cases x with
  | tup xs =>
    cases y with
    | lst ys =>
      have cn1 := (o1.same s2).cn
      have cn2 := o2.cn
      obtain ⟨q, vs, rfl, hq, cl⟩ := (o1.same s2).cn
      obtain ⟨q', ws, rfl, hq', _, cl'⟩ := o2.cn
      refine ⟨q, q', vs, ws, rfl, SqT.of hq, SqL.of hq', h2 _ H2 _ s walk_zipM (fun s hs => ?_) (fun s hs => ?_)⟩
      · show Cn p H2 (tupC (min (a.cct rc fl) (b.cct rc fl))) A _ _
        rw [tupC_id hmm]
        rcases List.mem_cons.mp hs with e | hs
        · rw [e]; exact cn1.weak (Nat.min_le_left _ _) hm1 hmm ok
        · rw [List.mem_singleton.mp hs]; exact cn2.weak (Nat.min_le_right _ _) hm2 hmm ok
      · rcases List.mem_cons.mp hs with e | hs
        · rw [e]; exact c1
        · rw [List.mem_singleton.mp hs]; exact c2
    | _ => exact h2.elim
  | _ => exact h2.elim
theorem i_rev {tg : Expr} (ha : PE X l (tE p G rc W e)) {x : Str} {q : Pos} (hx : x = "reversed") (hg : glB X.env.scope x = true) (hl : plainX l = true) : PI X tg (.Call (.Name x q) [l] [] pos) (tIt p G rc W (.rev e)) := by
  subst hx
  refine (pi_reversed (gl_of hg) (g.blt _ (by decide)) (pa_cons ha pa_nil (star_cons hl)) (star_cons hl)).imp fun σ H R h => ?_
  obtain ⟨env, fl, A, er, h⟩ := h
  refine one g.rcl er (F := fun d => match d with | .lst xs => .ok xs.reverse | _ => .stuck) h fun x v H1 s ok o1 val h1 => ?_
  have c0 := val.clo' (E.cls_le g.rcl e fl) ok
  have cn := o1.cn
  cases x with
  | lst xs =>
    obtain ⟨q, vs, rfl, hq, _, cl⟩ := o1.cn
    refine ⟨q, vs, rfl, SqL.of hq, ?_⟩
    rw [cl.1.length]
    exact h1 _ H1 _ s walk_rev (fun s hs => by rw [List.mem_singleton.mp hs]; exact cn) (fun s hs => by rw [List.mem_singleton.mp hs]; exact c0)
  | _ => exact h1.elim
end
end Tr

/-! What outlives a change elsewhere. -/
namespace Tr
open PySem PySem.Spec PyProof.Rows L2
theorem Keep.mono {av av' : Addr → Prop} {H H' : Hp} (k : Keep av H H') (w : ∀ a, av a → av' a) : Keep av' H H' := ⟨fun a o e n => k.cell a o e fun z => n (w a z), k.fix⟩
theorem Keep.trans {av av' : Addr → Prop} {H H' H2 : Hp} (k : Keep av H H') (k' : Keep av' H' H2) (w : ∀ a, av' a → av a ∨ H a = none) : Keep av H H2 :=
  ⟨fun a o e n => k'.cell a o (k.cell a o e n) fun z => (w a z).elim n (no_of e), fun a o f e => k'.fix a o f (k.fix a o f e)⟩
/-- a cell is written -/
theorem keep_a {H : Hp} {a : Addr} {o o' : HO} (h : H a = some o) (hm : (∃ xs, o = .lst xs) ∨ ∃ ws, o = .dT ws) : Keep (fun b => b = a) H (upd H a o') := by
  refine ⟨fun b u e n => by rw [upd_ne n]; exact e, fun b u f e => ?_⟩
  by_cases z : b = a
  · subst z; rw [h] at e; rcases hm with ⟨xs, rfl⟩ | ⟨ws, rfl⟩ <;> (cases e; cases f)
  · rw [upd_ne z]; exact e

section
variable {p : Pm} {H H' : Hp} {av av' : Addr → Prop} {pos pos' : Addr → List Nat → Prop}
/-- a tree outlives a change elsewhere -/
theorem Own.keep {a : Addr} (kp : Keep (fun b => b = a) H H') (ha : av a) (w : ∀ b, av' b → av b ∨ H b = none) (wp : ∀ b r, pos b r → pos' b r) : ∀ (k : Nat) (q : List Nat) (d : D) (v : V), (∀ r, pos a r → ¬ q <+: r) →
    Own p H av pos k q d v → Own p H' av' pos' k q d v
  | 0, q, d, v, _, h => Rep.keep (kp.mono fun b e => by rw [e]; exact ha) w d h
  | k + 1, q, d, v, n, h => by
    cases d with
    | lst ds =>
      obtain ⟨b, vs, e, hb, hp, hl, hc⟩ := h
      have nb : b ≠ a := fun z => n q (z ▸ hp) (List.prefix_refl q)
      exact ⟨b, vs, e, kp.cell _ _ hb nb, wp b q hp, hl, fun j d x e1 e2 => Own.keep kp ha w wp k (q ++ [j]) d x (fun r h1 h2 => n r h1 ((List.prefix_append q [j]).trans h2)) (hc j d x e1 e2)⟩
    | dic ds =>
      obtain ⟨b, vs, e, hb, hp, hl, hc⟩ := h
      have nb : b ≠ a := fun z => n q (z ▸ hp) (List.prefix_refl q)
      exact ⟨b, vs, e, kp.cell _ _ hb nb, wp b q hp, hl, fun j c d c' x e1 e2 => ⟨(hc j c d c' x e1 e2).1, Own.keep kp ha w wp k (q ++ [j]) d x (fun r h1 h2 => n r h1 ((List.prefix_append q [j]).trans h2)) (hc j c d c' x e1 e2).2⟩⟩
    | _ => exact Rep.keep (kp.mono fun b e => by rw [e]; exact ha) w _ h
end
end Tr

/-! Comprehensions. -/
namespace Tr
open PySem PySem.Spec PyProof.Rows L2
/-- one cell more is kept off -/
abbrev Avs.add (A : Avs) (q : Addr) : Avs := ⟨fun a => A.a0 a ∨ a = q, fun a => A.a1 a ∨ a = q, fun a => A.a2 a ∨ a = q⟩
section
variable {X : Cx} {p : Pm} {T : Nm} {G : Gam} {rc : Nat → Nat} {kk : Nat} {W : WX} {a b c e : E} {l r t : Expr} {pos : Pos}
theorem Avs.at_add {A : Avs} {q x : Addr} {m : Nat} : (A.add q).at m x ↔ A.at m x ∨ x = q := by
  unfold Avs.at
  split
  · exact Iff.rfl
  · split
    · exact Iff.rfl
    · split <;> exact Iff.rfl
theorem Er.add {A : Avs} {fl : Fls} {env : Env} {σ : L2.St} {H H' : Hp} {q : Addr} (s : Same H H') (hq : H q = none) (hq' : H' q ≠ none) (h : Er p A fl env σ H) : Er p (A.add q) fl env σ H' := by
  have w : ∀ {P : Addr → Prop} (a : Addr), (P a ∨ a = q) → P a ∨ H a = none := fun a z => z.elim .inl fun z => .inr (by rw [z]; exact hq)
  refine ⟨⟨fun a z => z.elim (fun z => .inl (h.ok.le01 a z)) .inr, fun a z => z.elim (fun z => .inl (h.ok.le12 a z)) .inr, fun a z => z.elim (fun z => same_nn s (h.ok.dom a z)) fun z => by rw [z]; exact hq'⟩, h.len, fun i d e => ?_⟩
  obtain ⟨v, e1, pos, n, c⟩ := h.slot i d e
  exact ⟨v, e1, fun a r => pos a r ∧ a ≠ q, fun a r z z' => z'.elim (n a r z.1) z.2, Cl.same' s (fun a => w a) (fun a => w a) (fun a => w a) (fun a r z nn => ⟨z, fun e => nn (by rw [e]; exact hq)⟩) c⟩
theorem Clo.add {A : Avs} {m : Nat} {d : D} {v : V} {H H' : Hp} {q : Addr} (s : Same H H') (hq : H q = none) (h : Clo p H m A d v) : Clo p H' m (A.add q) d v :=
  ⟨Rep.keep (Keep.same s) (fun a z => (Avs.at_add.mp z).elim .inl fun z => .inr (by rw [z]; exact hq)) d h.1, h.2⟩
theorem CloL.add {A : Avs} {m : Nat} {d : List D} {v : List V} {H H' : Hp} {q : Addr} (s : Same H H') (hq : H q = none) (h : CloL p H m A d v) : CloL p H' m (A.add q) d v :=
  ⟨RepL.keep (Keep.same s) (fun a z => (Avs.at_add.mp z).elim .inl fun z => .inr (by rw [z]; exact hq)) d h.1, h.2⟩
theorem Cn.add {A : Avs} {m : Nat} {d : D} {v : V} {H H' : Hp} {q : Addr} (s : Same H H') (hq : H q = none) (h : Cn p H m A d v) : Cn p H' m (A.add q) d v := by
  have ne : ∀ {a : Addr} {o : HO}, H a = some o → a ≠ q := fun e z => by rw [z, hq] at e; cases e
  cases d with
  | lst ds => obtain ⟨a, vs, e, ha, n, c⟩ := h; exact ⟨a, vs, e, s _ _ ha, fun z => z.elim n (ne ha), c.add s hq⟩
  | tup ds => obtain ⟨a, vs, e, ha, c⟩ := h; exact ⟨a, vs, e, s _ _ ha, c.add s hq⟩
  | dic ds =>
    obtain ⟨a, vs, e, ha, n, c, pu⟩ := h
    exact ⟨a, vs, e, s _ _ ha, fun z => z.elim n (ne ha), RepK.keep (Keep.same s) (fun a z => (Avs.at_add.mp z).elim .inl fun z => .inr (by rw [z]; exact hq)) ds c, pu⟩
  | obj ds =>
    obtain ⟨a, dx, vs, e, ha, n, c, pu⟩ := h
    exact ⟨a, dx, vs, e, s _ _ ha, fun z => z.elim n (ne ha), RepF.keep (Keep.same s) (fun a z => (Avs.at_add.mp z).elim .inl fun z => .inr (by rw [z]; exact hq)) ds c, pu⟩
  | _ => exact Rep.keep (Keep.same s) (fun a z => z.elim .inl fun z => .inr (by rw [z]; exact hq)) _ h
/-- the cell at q is changed -/
theorem keep_upd {H : Hp} {q : Addr} {xs : List V} {o : HO} {av : Addr → Prop} (hq : H q = some (.lst xs)) (ha : av q) : Keep av H (upd H q o) :=
  ⟨fun a o' e n => by rw [upd_ne (fun z => n (by rw [z]; exact ha))]; exact e, fun a u f e => by rw [upd_ne (fun z => by rw [z, hq] at e; cases e; cases f)]; exact e⟩
theorem Er.keep {A : Avs} {fl : Fls} {env : Env} {σ : L2.St} {H H' : Hp} {q : Addr} {xs : List V} {o : HO} (hq : H q = some (.lst xs)) (h : Er p (A.add q) fl env σ H) (e0 : H' = upd H q o) : True := trivial

theorem compD_snoc (f : D → Res (Option D)) : ∀ {ds : List D} {r : List D} {i : Nat} {d : D}, compD f ds = .ok r → ds[i]? = some d →
    ∃ o acc, f d = .ok o ∧ compD f (ds.take i) = .ok acc ∧ compD f (ds.take (i + 1)) = .ok (acc ++ optCons o []) ∧ acc.length ≤ r.length ∧ (∀ x, o = some x → acc.length < r.length)
  | [], r, i, d, h, e => by simp at e
  | d0 :: ds, r, i, d, h, e => by
    have h' : (f d0).bind (fun o => (compD f ds).bind fun ds => .ok (optCons o ds)) = .ok r := h
    cases e1 : f d0 with
    | exc c fs => rw [e1] at h'; cases h'
    | stuck => rw [e1] at h'; cases h'
    | ok o =>
      rw [e1] at h'
      simp only [Res.ok_bind] at h'
      cases e2 : compD f ds with
      | exc c fs => rw [e2] at h'; cases h'
      | stuck => rw [e2] at h'; cases h'
      | ok q =>
        rw [e2] at h'
        simp only [Res.ok_bind] at h'
        have hr : r = optCons o q := (Res.ok.inj h').symm
        cases i with
        | zero =>
          have ed : d0 = d := by simpa using e
          subst ed
          refine ⟨o, [], e1, rfl, ?_, Nat.zero_le _, fun x hx => ?_⟩
          · show (f d0).bind _ = _
            rw [e1]
            cases o <;> rfl
          · subst hx
            rw [hr]; simp [optCons]
        | succ i =>
          obtain ⟨o', acc, h1, h2, h3, h4, h5⟩ := compD_snoc f (i := i) e2 (by simpa using e)
          refine ⟨o', optCons o acc, h1, ?_, ?_, ?_, fun x hx => ?_⟩
          · show (f d0).bind _ = _
            rw [e1]
            simp only [Res.ok_bind]
            rw [show compD f (ds.take i) = _ from h2]; rfl
          · show (f d0).bind (fun o => (compD f (ds.take (i + 1))).bind _) = _
            rw [e1, h3]
            cases o <;> rfl
          · rw [hr]
            cases o with
            | none => exact h4
            | some y => simp [optCons]; omega
          · have := h5 x hx
            rw [hr]
            cases o with
            | none => exact this
            | some y => simp [optCons]; omega
theorem comp_core {fl : Fls} {A : Avs} {env : Env} {σ : L2.St} {H H1 : Hp} {vs : List Nat} {gt : TG} {tt : TT} {te : TE} {ds r : List D} {f : D → Res (Option D)} {J : L2.It} {srcs : List (D × V)} {m mi : Nat} {Q : VK} {Dd : Addr}
    (er : Er p A fl env σ H) (hr : compD f ds = .ok r) (hlen : r.length ≤ line) (s1 : Same H H1) (walk : Walk p J ds srcs) (hmi : mi ≤ 2 ∨ mi = 9) (hm : m ≤ 2 ∨ m = 9) (cn : ∀ s ∈ srcs, Cn p H1 mi A s.1 s.2) (hD : H1 Dd = none)
    (turn : ∀ (A' : Avs) (H2 : Hp) (d : D) (x : V) (o : Option D) (R1 : V → Hp → Prop) (R0 : Hp → Prop), Er p A' fl env σ H2 → Clo p H2 mi A' d x → f d = .ok o →
      (∀ z y H5, o = some z → Same H2 H5 → Clo p H5 m A' z y → R1 y H5) → (∀ H4, o = none → Same H2 H4 → R0 H4) →
      gt x (wipe σ vs) H2 fun σ2 H3 => wipe σ2 vs = wipe σ vs ∧ tt σ2 H3 fun b H4 => if b = true then te σ2 H4 R1 else R0 H4)
    (fin : ∀ H', Same H H' → Val p (dispC m) A H H' (.lst r) (.ref Dd) → Q (.ref Dd) H') :
    ∃ W : Nat → Nat → Hp → Prop, (∃ m, W 0 m (upd H1 Dd (.lst []))) ∧ ∀ i m H, W i m H →
      (J.stop i H ∧ Q (.ref Dd) H) ∨ (J.go i H ∧ ∃ Nx : Hp → Prop, (∀ H', Nx H' → ∃ m', m' < m ∧ W (i + 1) m' H') ∧ ∀ x H', J.yld i H x H' → gt x (wipe σ vs) H' fun σ2 H2 => wipe σ2 vs = wipe σ vs ∧ tt σ2 H2 fun b H3 =>
        if b = true then te σ2 H3 fun y H4 => ∃ acc, H4 Dd = some (.lst acc) ∧ acc.length < sizeLine ∧ Nx (upd H4 Dd (.lst (acc ++ [y]))) else Nx H3) := by
  have sz : (line : Nat) < sizeLine := by rw [sizeLine_eq]; decide
  refine ⟨fun i k H' => k = ds.length - i ∧ i ≤ ds.length ∧ Same H1 H' ∧ ∃ acc racc, H' Dd = some (.lst acc) ∧ compD f (ds.take i) = .ok racc ∧ CloL p H' m (A.add Dd) racc acc, ⟨ds.length, by simp, Nat.zero_le _, same_upd hD, [], [], upd_same, rfl, rfl, fun _ => rfl⟩, ?_⟩
  rintro i k H' ⟨rfl, hi, sm, acc, racc, hacc, hc, cl⟩
  have hq' : H' Dd ≠ none := by rw [hacc]; intro z; cases z
  have er' := (er.same s1).add sm hD hq'
  obtain ⟨wk, ws⟩ := walk mi (A.add Dd) H' hmi er'.ok fun s hs => (cn s hs).add sm hD
  by_cases hlt : i < ds.length
  · have ed : ds[i]? = some ds[i] := List.getElem?_eq_getElem hlt
    obtain ⟨go, yl⟩ := wk i _ ed
    obtain ⟨o, acc', h1, h2, h3, h4, h5⟩ := compD_snoc f hr ed
    rw [hc] at h2
    cases h2
    refine .inr ⟨go, fun H6 => Same H1 H6 ∧ ∃ acc racc, H6 Dd = some (.lst acc) ∧ compD f (ds.take (i + 1)) = .ok racc ∧ CloL p H6 m (A.add Dd) racc acc, fun H6 ⟨q1, q2⟩ => ⟨ds.length - (i + 1), by omega, rfl, hlt, q1, q2⟩, fun x H2 y => ?_⟩
    obtain ⟨s2, cx⟩ := yl x H2 y
    refine turn (A.add Dd) H2 _ x o _ _ (er'.same s2) cx h1 (fun z y H5 ho s5 cy => ?_) (fun H4 ho s4 => ?_)
    · have hD5 : H5 Dd = some (.lst acc) := s5 _ _ (s2 _ _ hacc)
      have hl : acc.length < sizeLine := by
        rw [cl.1.length]
        have := h5 z ho
        omega
      refine ⟨acc, hD5, hl, fun a o e => ?_, acc ++ [y], _, upd_same, h3, ?_⟩
      · rw [upd_ne (fun z => by rw [z, hD] at e; cases e)]
        exact s5 _ _ (s2 _ _ (sm a o e))
      · subst ho
        have kp : Keep ((A.add Dd).at m) H5 (upd H5 Dd (.lst (acc ++ [y]))) := keep_upd hD5 (Avs.at_add.mpr (.inr rfl))
        have c5 := (cl.same s2).same s5
        refine ⟨RepL.append (RepL.keep kp (fun _ z => .inl z) _ c5.1) ⟨y, [], rfl, Rep.keep kp (fun _ z => .inl z) _ cy.1, rfl⟩, fun e => ?_⟩
        refine pureL_of fun j d ej => ?_
        by_cases hj : j < racc.length
        · rw [List.getElem?_append_left hj] at ej; exact pureL_get (c5.2 e) ej
        · rw [List.getElem?_append_right (by omega)] at ej
          cases hk : j - racc.length with
          | zero => rw [hk] at ej; cases ej; exact cy.2 e
          | succ n => rw [hk] at ej; cases ej
    · subst ho
      refine ⟨(sm.trans s2).trans s4, acc, _, s4 _ _ (s2 _ _ hacc), h3, ?_⟩
      show CloL p H4 m (A.add Dd) (racc ++ []) acc
      rw [List.append_nil]
      exact (cl.same s2).same s4
  · have e : i = ds.length := by omega
    subst e
    refine .inl ⟨ws, fin H' (s1.trans sm) ?_⟩
    rw [List.take_length, hr] at hc
    cases hc
    refine Val.lst0 (tn := fun _ => none) (by omega) er.ok hacc (free_of s1 hD) (fun a z => absurd rfl z) cl.1.length fun j d v e1 e2 => ?_
    obtain ⟨w, e3, c⟩ := cl.get e1
    rw [e2] at e3; cases e3
    obtain ⟨cr, cp⟩ := c
    unfold Avs.at at cr
    unfold Cl
    rcases hm with hm | hm
    · have : m = 0 ∨ m = 1 ∨ m = 2 := by omega
      rcases this with rfl | rfl | rfl
      · exact Rep.weak (fun a z => .inl (.inl z)) cr
      · exact Rep.weak (fun a z => .inl (.inl z)) cr
      · exact Rep.weak (fun a z => .inl (z.elim .inl fun z => z.elim .inr fun z => absurd rfl z)) cr
    · subst hm
      exact ⟨cp rfl, Rep.weak (fun a z => .inl (.inl z)) cr⟩

/-- several values, one more -/
theorem EL.snoc {A : Avs} {B H2 H5 : Hp} {m : Nat} {ds : List D} {vs : List V} {z : D} {y : V} {tn0 : Plc} (f0 : ∀ a, tn0 a ≠ none → B a = none ∧ H2 a ≠ none) (hl : vs.length = ds.length)
    (h0 : ∀ (j : Nat) (d : D) (v : V), ds[j]? = some d → vs[j]? = some v → Cl p H2 m (A.plus tn0) (fun a r => tn0 a = some (j :: r)) d v) (hB : ∀ a, H2 a = none → B a = none) (s : Same H2 H5) (val : Val p m (A.plus tn0) H2 H5 z y) :
    ∃ tn2 : Plc, (∀ a, tn2 a ≠ none → B a = none ∧ H5 a ≠ none) ∧ (vs ++ [y]).length = (ds ++ [z]).length ∧ ∀ (j : Nat) (d : D) (v : V), (ds ++ [z])[j]? = some d → (vs ++ [y])[j]? = some v → Cl p H5 m (A.plus tn2) (fun a r => tn2 a = some (j :: r)) d v := by
  obtain ⟨tn1, f1, c1⟩ := val
  let tn2 : Plc := fun a => match tn0 a with | some r => some r | none => (match tn1 a with | some r => some (ds.length :: r) | none => none)
  have e0 : ∀ {a r}, tn0 a = some r → tn2 a = some r := fun {a r} h => by show (match tn0 a with | some r => some r | none => _) = _; rw [h]
  have e1 : ∀ {a r}, tn1 a = some r → tn2 a = some (ds.length :: r) := fun {a r} h => by
    have : tn0 a = none := by
      cases q : tn0 a with
      | none => rfl
      | some r' => exact absurd (f1 a (nn_of h)).1 (f0 a (nn_of q)).2
    show (match tn0 a with | some r => some r | none => (match tn1 a with | some r => some (ds.length :: r) | none => none)) = _
    rw [this, h]
  have e2 : ∀ a, tn2 a ≠ none → tn0 a ≠ none ∨ tn1 a ≠ none := fun a h => by
    cases q0 : tn0 a with
    | some r => exact .inl (by intro z; cases z)
    | none =>
      cases q1 : tn1 a with
      | some r => exact .inr (by intro z; cases z)
      | none => exact absurd (by show (match tn0 a with | some r => some r | none => (match tn1 a with | some r => some (ds.length :: r) | none => none)) = _; rw [q0, q1]) h
  refine ⟨tn2, fun a h => ?_, by simp [hl], fun j d v g1 g2 => ?_⟩
  · rcases e2 a h with h | h
    · exact ⟨(f0 a h).1, same_nn s (f0 a h).2⟩
    · exact ⟨hB a (f1 a h).1, (f1 a h).2⟩
  · by_cases hj : j < ds.length
    · rw [List.getElem?_append_left hj] at g1
      rw [List.getElem?_append_left (by omega)] at g2
      refine Cl.same' (A := A.plus tn0) s (fun a z => .inl z) (fun a z => .inl z) (fun a z => ?_) (fun a r z _ => e0 z) (h0 j d v g1 g2)
      rcases z with z | z
      · exact .inl (.inl z)
      · exact (e2 a z).elim (fun z => .inl (.inr z)) fun z => .inr (f1 a z).1
    · rw [List.getElem?_append_right (by omega)] at g1
      rw [List.getElem?_append_right (by omega)] at g2
      have ej : j = ds.length := by
        have := (List.getElem?_eq_some_iff.mp g1).1
        simp at this
        omega
      subst ej
      rw [Nat.sub_self] at g1
      rw [hl, Nat.sub_self] at g2
      cases g1; cases g2
      refine Cl.same' (A := (A.plus tn0).plus tn1) (fun _ _ e => e) (fun a z => .inl z) (fun a z => .inl z) (fun a z => .inl ?_) (fun a r z _ => e1 z) c1
      rcases z with z | z
      · exact .inl (.inl z)
      · exact (e2 a z).elim (fun z => .inl (.inr z)) .inr
theorem Er.addP {A : Avs} {fl : Fls} {env : Env} {σ : L2.St} {H H' : Hp} {q : Addr} {tn : Plc} (s : Same H H') (hq : H q = none) (hq' : H' q ≠ none) (f : ∀ a, tn a ≠ none → H a = none ∧ H' a ≠ none) (h : Er p A fl env σ H) : Er p ((A.add q).plus tn) fl env σ H' := by
  have w : ∀ {P : Addr → Prop} (a : Addr), (P a ∨ a = q) → P a ∨ H a = none := fun a z => z.elim .inl fun z => .inr (by rw [z]; exact hq)
  refine ⟨⟨fun a z => z.elim (fun z => .inl (h.ok.le01 a z)) .inr, fun a z => .inl (z.elim (fun z => .inl (h.ok.le12 a z)) .inr), fun a z => z.elim (fun z => z.elim (fun z => same_nn s (h.ok.dom a z)) fun z => by rw [z]; exact hq') fun z => (f a z).2⟩, h.len, fun i d e => ?_⟩
  obtain ⟨v, e1, pos, n, c⟩ := h.slot i d e
  exact ⟨v, e1, fun a r => pos a r ∧ a ≠ q, fun a r z z' => z'.elim (n a r z.1) z.2, Cl.same' s (fun a => w a) (fun a => w a) (fun a z => z.elim (fun z => w a z) fun z => .inr (f a z).1) (fun a r z nn => ⟨z, fun e => nn (by rw [e]; exact hq)⟩) c⟩
theorem Avs.at_addP {A : Avs} {q x : Addr} {m : Nat} {tn : Plc} : ((A.add q).plus tn).at m x → A.at m x ∨ x = q ∨ tn x ≠ none := by
  unfold Avs.at
  split
  · exact fun z => z.imp id .inl
  · split
    · exact fun z => z.imp id .inl
    · split
      · exact fun z => z.imp id .inl
      · exact fun z => z.elim (fun z => z.imp id .inl) fun z => .inr (.inr z)
theorem Cn.addP {A : Avs} {m : Nat} {d : D} {v : V} {H H' : Hp} {q : Addr} {tn : Plc} (s : Same H H') (hq : H q = none) (f : ∀ a, tn a ≠ none → H a = none) (h : Cn p H m A d v) : Cn p H' m ((A.add q).plus tn) d v := by
  have ne : ∀ {a : Addr} {o : HO}, H a = some o → a ≠ q := fun e z => by rw [z, hq] at e; cases e
  have w : ∀ a, ((A.add q).plus tn).at m a → A.at m a ∨ H a = none := fun a z => (Avs.at_addP z).imp id fun z => z.elim (fun z => by rw [z]; exact hq) (f a)
  cases d with
  | lst ds => obtain ⟨a, vs, e, ha, n, c⟩ := h; exact ⟨a, vs, e, s _ _ ha, fun z => z.elim n (ne ha), RepL.keep (Keep.same s) w ds c.1, c.2⟩
  | tup ds => obtain ⟨a, vs, e, ha, c⟩ := h; exact ⟨a, vs, e, s _ _ ha, RepL.keep (Keep.same s) w ds c.1, c.2⟩
  | dic ds =>
    obtain ⟨a, vs, e, ha, n, c, pu⟩ := h
    exact ⟨a, vs, e, s _ _ ha, fun z => z.elim n (ne ha), RepK.keep (Keep.same s) w ds c, pu⟩
  | obj ds =>
    obtain ⟨a, dx, vs, e, ha, n, c, pu⟩ := h
    exact ⟨a, dx, vs, e, s _ _ ha, fun z => z.elim n (ne ha), RepF.keep (Keep.same s) w ds c, pu⟩
  | _ => exact Rep.keep (Keep.same s) (fun a z => z.elim .inl fun z => .inr (by rw [z]; exact hq)) _ h
/-- .. whose items are ours, too -/
theorem comp_core3 {fl : Fls} {A : Avs} {env : Env} {σ : L2.St} {H H1 : Hp} {vs : List Nat} {gt : TG} {tt : TT} {te : TE} {ds r : List D} {f : D → Res (Option D)} {J : L2.It} {srcs : List (D × V)} {m mi : Nat} {Q : VK} {Dd : Addr}
    (er : Er p A fl env σ H) (hr : compD f ds = .ok r) (hlen : r.length ≤ line) (s1 : Same H H1) (walk : Walk p J ds srcs) (hmi : mi ≤ 2 ∨ mi = 9) (hm : 3 ≤ m ∧ m ≤ 8) (cn : ∀ s ∈ srcs, Cn p H1 mi A s.1 s.2) (hD : H1 Dd = none)
    (turn : ∀ (A' : Avs) (H2 : Hp) (d : D) (x : V) (o : Option D) (R1 : V → Hp → Prop) (R0 : Hp → Prop), Er p A' fl env σ H2 → Clo p H2 mi A' d x → f d = .ok o →
      (∀ z y H5, o = some z → Same H2 H5 → Val p m A' H2 H5 z y → R1 y H5) → (∀ H4, o = none → Same H2 H4 → R0 H4) →
      gt x (wipe σ vs) H2 fun σ2 H3 => wipe σ2 vs = wipe σ vs ∧ tt σ2 H3 fun b H4 => if b = true then te σ2 H4 R1 else R0 H4)
    (fin : ∀ H', Same H H' → Val p (dispC m) A H H' (.lst r) (.ref Dd) → Q (.ref Dd) H') :
    ∃ W : Nat → Nat → Hp → Prop, (∃ m, W 0 m (upd H1 Dd (.lst []))) ∧ ∀ i m H, W i m H →
      (J.stop i H ∧ Q (.ref Dd) H) ∨ (J.go i H ∧ ∃ Nx : Hp → Prop, (∀ H', Nx H' → ∃ m', m' < m ∧ W (i + 1) m' H') ∧ ∀ x H', J.yld i H x H' → gt x (wipe σ vs) H' fun σ2 H2 => wipe σ2 vs = wipe σ vs ∧ tt σ2 H2 fun b H3 =>
        if b = true then te σ2 H3 fun y H4 => ∃ acc, H4 Dd = some (.lst acc) ∧ acc.length < sizeLine ∧ Nx (upd H4 Dd (.lst (acc ++ [y]))) else Nx H3) := by
  have sz : (line : Nat) < sizeLine := by rw [sizeLine_eq]; decide
  let Inn : Nat → Hp → Prop := fun i H' => Same H1 H' ∧ ∃ acc racc tn, H' Dd = some (.lst acc) ∧ compD f (ds.take i) = .ok racc ∧ acc.length = racc.length ∧ (∀ a, tn a ≠ none → H1 a = none ∧ a ≠ Dd ∧ H' a ≠ none) ∧
    ∀ (j : Nat) (d : D) (v : V), racc[j]? = some d → acc[j]? = some v → Cl p H' m ((A.add Dd).plus tn) (fun a r => tn a = some (j :: r)) d v
  refine ⟨fun i k H' => k = ds.length - i ∧ i ≤ ds.length ∧ Inn i H', ⟨ds.length, by simp, Nat.zero_le _, same_upd hD, [], [], fun _ => none, upd_same, rfl, rfl, fun a z => absurd rfl z, fun j d v e => by simp at e⟩, ?_⟩
  rintro i k H' ⟨rfl, hi, sm, acc, racc, tn, hacc, hc, hal, ft, cl⟩
  have hq' : H' Dd ≠ none := by rw [hacc]; intro z; cases z
  have er' := (er.same s1).addP (tn := tn) sm hD hq' fun a z => ⟨(ft a z).1, (ft a z).2.2⟩
  obtain ⟨wk, ws⟩ := walk mi ((A.add Dd).plus tn) H' hmi er'.ok fun s hs => (cn s hs).addP sm hD fun a z => (ft a z).1
  by_cases hlt : i < ds.length
  · have ed : ds[i]? = some ds[i] := List.getElem?_eq_getElem hlt
    obtain ⟨go, yl⟩ := wk i _ ed
    obtain ⟨o, acc', h1, h2, h3, h4, h5⟩ := compD_snoc f hr ed
    rw [hc] at h2
    cases h2
    refine .inr ⟨go, Inn (i + 1), fun H6 q => ⟨ds.length - (i + 1), by omega, rfl, hlt, q⟩, fun x H2 y => ?_⟩
    obtain ⟨s2, cx⟩ := yl x H2 y
    have ft2 : ∀ a, tn a ≠ none → upd H1 Dd (.lst []) a = none ∧ H2 a ≠ none := fun a z => ⟨by rw [upd_ne (ft a z).2.1]; exact (ft a z).1, same_nn s2 (ft a z).2.2⟩
    have cl2 : ∀ (j : Nat) (d : D) (v : V), racc[j]? = some d → acc[j]? = some v → Cl p H2 m ((A.add Dd).plus tn) (fun a r => tn a = some (j :: r)) d v := fun j d v g1 g2 => Cl.same' s2 (fun a z => .inl z) (fun a z => .inl z) (fun a z => .inl z) (fun a r z _ => z) (cl j d v g1 g2)
    refine turn ((A.add Dd).plus tn) H2 _ x o _ _ (er'.same s2) cx h1 (fun z y H5 ho s5 cy => ?_) (fun H4 ho s4 => ?_)
    · have hD5 : H5 Dd = some (.lst acc) := s5 _ _ (s2 _ _ hacc)
      have hl : acc.length < sizeLine := by
        rw [hal]
        have := h5 z ho
        omega
      obtain ⟨tn2, f2, l2, c2⟩ := EL.snoc (A := A.add Dd) (B := upd H1 Dd (.lst [])) ft2 hal cl2 (fun a e => by
        by_cases ea : a = Dd
        · subst ea; rw [s2 _ _ hacc] at e; cases e
        · rw [upd_ne ea]
          cases q : H1 a with
          | none => rfl
          | some u => rw [s2 _ _ (sm _ _ q)] at e; cases e) s5 cy
      have n2 : ∀ a, tn2 a ≠ none → a ≠ Dd := fun a z e => by have := (f2 a z).1; rw [e, upd_same] at this; cases this
      refine ⟨acc, hD5, hl, fun a o e => ?_, acc ++ [y], _, tn2, upd_same, h3, ?_, fun a z => ⟨?_, n2 a z, ?_⟩, fun j d v g1 g2 => ?_⟩
      · rw [upd_ne (fun z => by rw [z, hD] at e; cases e)]
        exact s5 _ _ (s2 _ _ (sm a o e))
      · subst ho; exact l2
      · have := (f2 a z).1
        rw [upd_ne (n2 a z)] at this
        exact this
      · rw [upd_ne (n2 a z)]; exact (f2 a z).2
      · subst ho
        have c3 := c2 j d v g1 g2
        unfold Cl at c3 ⊢
        rw [if_neg (by omega), if_neg (by omega), if_neg (by omega)] at c3 ⊢
        exact Own.keep (a := Dd) (keep_a hD5 (.inl ⟨_, rfl⟩)) (.inl (.inr rfl)) (fun b z => .inl z) (fun b r z => z) _ _ _ _ (fun r z _ => n2 Dd (nn_of z) rfl) c3
    · subst ho
      refine ⟨(sm.trans s2).trans s4, acc, _, tn, s4 _ _ (s2 _ _ hacc), h3, ?_, fun a z => ⟨(ft a z).1, (ft a z).2.1, same_nn s4 (ft2 a z).2⟩, fun j d v g1 g2 => ?_⟩
      · show acc.length = (racc ++ []).length
        rw [List.append_nil]; exact hal
      · have g1' : (racc ++ [])[j]? = some d := g1
        rw [List.append_nil] at g1'
        exact Cl.same' s4 (fun a z => .inl z) (fun a z => .inl z) (fun a z => .inl z) (fun a r z _ => z) (cl2 j d v g1' g2)
  · have e : i = ds.length := by omega
    subst e
    refine .inl ⟨ws, fin H' (s1.trans sm) ?_⟩
    rw [List.take_length, hr] at hc
    cases hc
    refine Val.lst0 (tn := tn) (by omega) er.ok hacc (free_of s1 hD) (fun a z => ⟨free_of s1 (ft a z).1, (ft a z).2.2, (ft a z).2.1⟩) hal fun j d v e1 e2 => ?_
    have c4 := cl j d v e1 e2
    unfold Cl at c4 ⊢
    rw [if_neg (by omega), if_neg (by omega), if_neg (by omega)] at c4 ⊢
    exact Own.same _ _ _ _ (fun _ _ e => e) (fun a z => .inl (z.elim (fun z => .inl (.inl z)) fun z => z.elim (fun z => .inl (.inr z)) .inr)) (fun a r z _ => z) c4
theorem setFl_one (i c : Nat) (fl : Fls) : setFl [i] c fl = fl.set i c := rfl
theorem setFl_two (i j c : Nat) (fl : Fls) : setFl [i, j] c fl = (fl.set i c).set j c := rfl
/-- a name is given a value -/
theorem Er.set {A : Avs} {fl : Fls} {env : Env} {σ : L2.St} {H : Hp} {i m : Nat} {d : D} {v : V} (h : Er p A fl env σ H) (hm : m ≤ 2 ∨ m = 9) (c : Clo p H m A d v) : Er p A (fl.set i m) (env.set i (some d)) (σ.set i (some v)) H := by
  refine ⟨h.ok, by rw [List.length_set, List.length_set]; exact h.len, fun j x e => ?_⟩
  by_cases hj : i = j
  · subst hj
    have hi : i < env.length := by
      have := (List.getElem?_eq_some_iff.mp e).1
      rwa [List.length_set] at this
    rw [List.getElem?_set_self hi] at e
    cases e
    refine ⟨v, List.getElem?_set_self (by rw [← h.len]; exact hi), fun _ _ => False, fun _ _ z => z.elim, ?_⟩
    have key : ∀ n, (n = m ∨ n = 0) → Cl p H n A (fun _ _ => False) d v := fun n hn => by
      have c' : Clo p H n A d v := c.weak (by omega) hm (by omega) h.ok
      unfold Cl
      obtain ⟨cr, cp⟩ := c'
      unfold Avs.at at cr
      split
      · rename_i e; subst e; exact ⟨cp rfl, cr⟩
      · rename_i e9
        split
        · rename_i e; subst e; exact cr
        · rename_i e0
          split
          · rename_i e; subst e; exact cr
          · rename_i e1
            have : n = 2 := by omega
            subst this
            exact cr
    refine key _ ?_
    rw [List.getD_eq_getElem?_getD]
    by_cases hf : i < fl.length
    · rw [List.getElem?_set_self hf]; exact .inl rfl
    · rw [List.getElem?_eq_none (by rw [List.length_set]; omega)]; exact .inr rfl
  · rw [List.getElem?_set_ne hj] at e
    obtain ⟨w, e1, pos, n, c'⟩ := h.slot j x e
    refine ⟨w, by rw [List.getElem?_set_ne hj]; exact e1, pos, n, ?_⟩
    rw [List.getD_eq_getElem?_getD, List.getElem?_set_ne hj, ← List.getD_eq_getElem?_getD]
    exact c'
theorem Er.unset {A : Avs} {fl : Fls} {env : Env} {σ : L2.St} {H : Hp} {i : Nat} (h : Er p A fl env σ H) : Er p A fl (env.set i none) (σ.set i none) H := by
  refine ⟨h.ok, by rw [List.length_set, List.length_set]; exact h.len, fun j x e => ?_⟩
  by_cases hj : i = j
  · subst hj
    by_cases hi : i < env.length
    · rw [List.getElem?_set_self hi] at e; cases e
    · rw [List.getElem?_eq_none (by rw [List.length_set]; omega)] at e; cases e
  · rw [List.getElem?_set_ne hj] at e
    obtain ⟨w, e1, r⟩ := h.slot j x e
    exact ⟨w, by rw [List.getElem?_set_ne hj]; exact e1, r⟩
theorem Er.wipe {A : Avs} {fl : Fls} {env : Env} {σ : L2.St} {H : Hp} (h : Er p A fl env σ H) : ∀ vs : List Nat, Er p A fl (wipeE env vs) (wipe σ vs) H
  | [] => h
  | v :: vs => (Er.wipe h vs).unset
theorem wipe_in {σ : L2.St} : ∀ {vs : List Nat} {i : Nat} {x : Option V}, i ∈ vs → wipe (σ.set i x) vs = wipe σ vs
  | v :: vs, i, x, h => by
    unfold wipe
    by_cases e : i = v
    · subst e
      by_cases hm : i ∈ vs
      · rw [wipe_in hm]
      · have : ∀ (vs : List Nat) (σ : L2.St), i ∉ vs → wipe (σ.set i x) vs = (wipe σ vs).set i x := by
          intro vs
          induction vs with
          | nil => intro σ _; rfl
          | cons w vs ih =>
            intro σ hn
            unfold wipe
            rw [ih σ fun h => hn (List.mem_cons_of_mem _ h), List.set_comm]
            exact fun z => hn (by rw [z]; exact List.mem_cons_self)
        rw [this vs σ hm, List.set_set]
    · rcases List.mem_cons.mp h with h | h
      · exact absurd h e
      · rw [wipe_in h]
theorem wipe_idem {σ : L2.St} : ∀ vs : List Nat, wipe (wipe σ vs) vs = wipe σ vs := fun vs => by
  have all : ∀ (us : List Nat), (∀ u ∈ us, u ∈ vs) → wipe (wipe σ us) vs = wipe σ vs := by
    intro us
    induction us with
    | nil => intro _; rfl
    | cons u us ih =>
      intro h
      show wipe ((wipe σ us).set u none) vs = _
      rw [wipe_in (h u List.mem_cons_self), ih fun x hx => h x (List.mem_cons_of_mem _ hx)]
  exact all vs fun _ h => h
/-- the targets of a loop -/
def gTg (K : PySem.W.Frag) : List Nat → TG
  | [i] => gName i
  | [i, j] => gTup K 2 (gCons (gName i) (gCons (gName j) gNil))
  | _ => fun _ _ _ _ => False
theorem gTg_ok {K : PySem.W.Frag} {A : Avs} {fl : Fls} {env env' : Env} {σ : L2.St} {H : Hp} {tg : List Nat} {m : Nat} {d : D} {x : V} {Q : L2.St → Hp → Prop} (h : Er p A fl env σ H) (hm : m ≤ 2 ∨ m = 9) (c : Clo p H m A d x) (hs : setTg tg d env = .ok env')
    (fin : ∀ σ', Er p A (setFl tg m fl) env' σ' H → (∀ vs, (∀ i ∈ tg, i ∈ vs) → wipe σ' vs = wipe σ vs) → Q σ' H) : gTg K tg x σ H Q := by
  match tg, hs with
  | [i], hs =>
    cases hs
    exact fin _ (h.set hm c) fun vs hv => wipe_in (hv i List.mem_cons_self)
  | [i, j], hs =>
    have c2 : ∃ d1 d2, d = .tup [d1, d2] ∧ env' = (env.set i (some d1)).set j (some d2) := by
      cases d with
      | tup ds =>
        match ds, hs with
        | [d1, d2], hs => exact ⟨d1, d2, rfl, (Res.ok.inj hs).symm⟩
      | _ => cases hs
    obtain ⟨d1, d2, rfl, rfl⟩ := c2
    obtain ⟨⟨q, vs, rfl, hq, x1, _, rfl, r1, x2, _, rfl, r2, rfl⟩, cp⟩ := c
    have p1 : m = 9 → d1.pure = true ∧ d2.pure = true := fun e => by
      have q : (d1.pure && (d2.pure && true)) = true := cp e
      rw [Bool.and_true, Bool.and_eq_true] at q
      exact q
    refine ⟨q, _, rfl, SqT.of hq, rfl, x1, _, rfl, x2, _, rfl, rfl, ?_⟩
    exact fin _ ((h.set hm ⟨r1, fun e => (p1 e).1⟩).set hm ⟨r2, fun e => (p1 e).2⟩) fun vs hv => by
      rw [wipe_in (hv j (by simp)), wipe_in (hv i (by simp))]
theorem Good.blk (g : Good p T G rc kk W X) {s : Shared} {H : Hp} {scope : Scope} {ce : PySem.Env} {fp : List Addr} : Good p T G rc kk (fun _ _ _ _ => False) (X.blk s H scope ce fp) :=
  ⟨g.calm, g.nd, g.kq, g.room, takes0, g.blt, g.rcl, g.fn, g.fnM, g.fnI, g.tok, g.xok, g.xmg, g.con, g.xin⟩
theorem locB_of {Y : Cx} {x : Str} (h : locB Y.env.scope x = true) : L2.Loc Y.env.scope x := by
  unfold locB at h
  unfold L2.Loc
  split at h <;> first | exact .inl (by assumption) | exact .inr (by assumption) | cases h
theorem loc1B_of {Y : Cx} {x : Str} (h : loc1B Y.env.scope x = true) : Y.env.scope.names.lookup x = some .local := by
  unfold loc1B at h
  split at h
  · assumption
  · cases h
/-- the targets, as the program writes them -/
theorem pg_tg {Y : Cx} {tg : List Nat} {tx : Expr} {ns : List Str} (hc : Y.calm = true) (hN : Y.N.Nodup) (h1 : tgNames tg tx = some ns) (h2 : ∀ z ∈ ns.zip tg, Y.N[z.2]? = some z.1) (h3 : ∀ n ∈ ns, L2.Loc Y.env.scope n ∧ (Y.fn n = true ∨ Y.env.scope.names.lookup n = some .local)) : PG Y tx (gTg Y.K tg) := by
  match tg, tx, h1 with
  | [i], .Name x pos, h1 =>
    cases h1
    exact pg_name hN (h2 (x, i) (by simp)) (h3 x (by simp)).1 (h3 x (by simp)).2
  | [i, j], .Tuple [.Name x p1, .Name y p2] k pos, h1 =>
    cases h1
    exact pg_tup hc (pgs_cons (pg_name hN (h2 (x, i) (by simp)) (h3 x (by simp)).1 (h3 x (by simp)).2) (pgs_cons (pg_name hN (h2 (y, j) (by simp)) (h3 y (by simp)).1 (h3 y (by simp)).2) pgs_nil))
abbrev noW : WX := fun _ _ _ _ => False
theorem tg_zip {tg : List Nat} {tx : Expr} {ns : List Str} (h : tgNames tg tx = some ns) : (ns.zip tg).map (·.2) = tg := by
  match tg, tx, h with
  | [i], .Name x pos, h => cases h; rfl
  | [i, j], .Tuple [.Name x p1, .Name y p2] k pos, h => cases h; rfl
theorem compD_noexc {f : D → Res (Option D)} (hf : ∀ d c fs, f d ≠ .exc c fs) : ∀ (ds : List D) (c : Nat) (fs : List (Str × Int)), compD f ds ≠ .exc c fs
  | [], c, fs, h => by cases h
  | d :: ds, c, fs, h => by
    have h' : (f d).bind (fun o => (compD f ds).bind fun ds => .ok (optCons o ds)) = .exc c fs := h
    cases e : f d with
    | exc c fs => exact hf d c fs e
    | stuck => rw [e] at h'; cases h'
    | ok o =>
      rw [e] at h'
      simp only [Res.ok_bind] at h'
      cases e2 : compD f ds with
      | exc c fs => exact compD_noexc hf ds c fs e2
      | stuck => rw [e2] at h'; cases h'
      | ok q => rw [e2] at h'; cases h'
theorem setTg_noexc {tg : List Nat} {d : D} {env : Env} {c : Nat} {fs : List (Str × Int)} : setTg tg d env ≠ .exc c fs := by
  match tg with
  | [] => intro h; cases d <;> cases h
  | [i] => intro h; cases d <;> cases h
  | [i, j] =>
    intro h
    cases d with
    | tup ds =>
      match ds with
      | [] => cases h
      | [_] => cases h
      | [_, _] => cases h
      | _ :: _ :: _ :: _ => cases h
    | _ => cases h
  | _ :: _ :: _ :: _ => intro h; cases d <;> cases h
theorem calm_inv {α : Type} {R : Res α} {a : α} (h : R.calm = .ok a) : R = .ok a := by
  cases R with
  | ok x => exact h
  | exc c fs => cases h
  | stuck => cases h
theorem calm_noexc {α : Type} {R : Res α} {c : Nat} {fs : List (Str × Int)} : R.calm ≠ .exc c fs := by cases R <;> intro h <;> cases h
theorem bind_inv {α β : Type} {R : Res α} {f : α → Res β} {b : β} (h : R.bind f = .ok b) : ∃ a, R = .ok a ∧ f a = .ok b := by
  cases R with
  | ok a => exact ⟨a, rfl, h⟩
  | exc c fs => cases h
  | stuck => cases h
theorem bind_exc {α β : Type} {R : Res α} {f : α → Res β} {c : Nat} {fs : List (Str × Int)} (h : R.bind f = .exc c fs) : R = .exc c fs ∨ ∃ a, R = .ok a ∧ f a = .exc c fs := by
  cases R with
  | ok a => exact .inr ⟨a, rfl, h⟩
  | exc c' fs' =>
    have h' : (Res.exc c' fs' : Res β) = .exc c fs := h
    cases h'
    exact .inl rfl
  | stuck => cases h
theorem boolD_inv {α : Type} {R : Res D} {f : Bool → Res α} {b : α} (h : boolD R f = .ok b) : ∃ t, R = .ok (.bl t) ∧ f t = .ok b := by
  obtain ⟨d, e, h⟩ := bind_inv (show R.bind (fun d => match d with | .bl b => f b | _ => .stuck) = .ok b from h)
  cases d with
  | bl t => exact ⟨t, e, h⟩
  | _ => cases h
theorem boolD_exc {α : Type} {R : Res D} {f : Bool → Res α} {c : Nat} {fs : List (Str × Int)} (h : boolD R f = .exc c fs) : R = .exc c fs ∨ ∃ t, R = .ok (.bl t) ∧ f t = .exc c fs := by
  rcases bind_exc (show R.bind (fun d => match d with | .bl b => f b | _ => .stuck) = .exc c fs from h) with h | ⟨d, e, h⟩
  · exact .inl h
  · cases d with
    | bl t => exact .inr ⟨t, e, h⟩
    | _ => cases h
variable (g : Good p T G rc kk W X)
include g
theorem lc_imp {tg : List Nat} {it : It} {σ : L2.St} {H : Hp} {Q : VK} (h : tE p G rc W (.comp tg it e) σ H Q) : tLc (tIt p G rc W it) (gTg X.K tg) tYes (tE p G rc noW e) tg σ H Q := by
  obtain ⟨env, fl, A, er, h⟩ := h
  refine ⟨env, fl, A, er, (Rs.bind h).mono fun ds _ h J H1 srcs s1 wk cn _ => ?_⟩
  intro Dd hD
  have ne : ∀ d c fs, ((setTg tg d (wipeE env tg)).bind fun env' => ((e.sem G env').calm).bind fun x => .ok (some x)) ≠ .exc c fs := fun d c fs z => by
    rcases bind_exc z with z | ⟨a, _, z⟩
    · exact setTg_noexc z
    · rcases bind_exc z with z | ⟨b, _, z⟩
      · exact calm_noexc z
      · cases z
  cases hr : compD (fun d => (setTg tg d (wipeE env tg)).bind fun env' => ((e.sem G env').calm).bind fun x => .ok (some x)) ds with
  | exc c fs => exact absurd hr (compD_noexc ne ds c fs)
  | stuck => rw [hr] at h; exact h.elim
  | ok r =>
    rw [hr] at h
    obtain ⟨hlen, h⟩ := ite_inv h
    by_cases h3 : 3 ≤ e.cls rc (setFl tg (it.cls rc fl) fl) ∧ e.cls rc (setFl tg (it.cls rc fl) fl) ≤ 8
    · refine comp_core3 er hr hlen s1 wk (It.cls_two it fl) h3 cn hD (fun A' H2 d x o R1 R0 er2 cx ho k1 k0 => ?_) fun H' s' val => Rs.ok h _ H' s' val (val.cn (dispC_le _) er.ok s')
      obtain ⟨env', e1, ho⟩ := bind_inv ho
      obtain ⟨z, e2, ho⟩ := bind_inv ho
      have e2 := calm_inv e2
      have : o = some z := (Res.ok.inj ho).symm
      subst this
      refine gTg_ok (er2.wipe tg) (It.cls_two it fl) cx e1 fun σ' er3 hw => ⟨by rw [hw tg fun _ h => h]; exact wipe_idem tg, ?_⟩
      refine (show tE p G rc noW e σ' H2 R1 from ?_)
      refine ⟨env', setFl tg (it.cls rc fl) fl, A', er3, ?_⟩
      rw [e2]
      exact fun v H5 s5 val _ => k1 z v H5 rfl s5 val
    · have hm : e.cls rc (setFl tg (it.cls rc fl) fl) ≤ 2 ∨ e.cls rc (setFl tg (it.cls rc fl) fl) = 9 := by
        have := E.cls_le g.rcl e (setFl tg (it.cls rc fl) fl)
        omega
      refine comp_core er hr hlen s1 wk (It.cls_two it fl) hm cn hD (fun A' H2 d x o R1 R0 er2 cx ho k1 k0 => ?_) fun H' s' val => Rs.ok h _ H' s' val (val.cn (dispC_le _) er.ok s')
      obtain ⟨env', e1, ho⟩ := bind_inv ho
      obtain ⟨z, e2, ho⟩ := bind_inv ho
      have e2 := calm_inv e2
      have : o = some z := (Res.ok.inj ho).symm
      subst this
      refine gTg_ok (er2.wipe tg) (It.cls_two it fl) cx e1 fun σ' er3 hw => ⟨by rw [hw tg fun _ h => h]; exact wipe_idem tg, ?_⟩
      refine (show tE p G rc noW e σ' H2 R1 from ?_)
      refine ⟨env', setFl tg (it.cls rc fl) fl, A', er3, ?_⟩
      rw [e2]
      exact fun v H5 s5 val _ => k1 z v H5 rfl s5 (val.clo (Nat.le_refl _) (E.cls_le g.rcl e _) hm er3.ok)
theorem lcIf_imp {tg : List Nat} {it : It} {σ : L2.St} {H : Hp} {Q : VK} (h : tE p G rc W (.compIf tg it c e) σ H Q) : tLc (tIt p G rc W it) (gTg X.K tg) (tT p G noW c) (tE p G rc noW e) tg σ H Q := by
  obtain ⟨env, fl, A, er, h⟩ := h
  refine ⟨env, fl, A, er, (Rs.bind h).mono fun ds _ h J H1 srcs s1 wk cn _ => ?_⟩
  intro Dd hD
  have ne : ∀ d k fs, ((setTg tg d (wipeE env tg)).bind fun env' => boolD ((c.sem G env').calm) fun t => if t = true then ((e.sem G env').calm).bind fun x => .ok (some x) else .ok none) ≠ .exc k fs := fun d k fs z => by
    rcases bind_exc z with z | ⟨a, _, z⟩
    · exact setTg_noexc z
    · rcases boolD_exc z with z | ⟨b, _, z⟩
      · exact calm_noexc z
      · cases b with
        | false => cases z
        | true =>
          rcases bind_exc z with z | ⟨b, _, z⟩
          · exact calm_noexc z
          · cases z
  cases hr : compD (fun d => (setTg tg d (wipeE env tg)).bind fun env' => boolD ((c.sem G env').calm) fun t => if t = true then ((e.sem G env').calm).bind fun x => .ok (some x) else .ok none) ds with
  | exc k fs => exact absurd hr (compD_noexc ne ds k fs)
  | stuck => rw [hr] at h; exact h.elim
  | ok r =>
    rw [hr] at h
    obtain ⟨hlen, h⟩ := ite_inv h
    by_cases h3 : 3 ≤ e.cls rc (setFl tg (it.cls rc fl) fl) ∧ e.cls rc (setFl tg (it.cls rc fl) fl) ≤ 8
    · refine comp_core3 er hr hlen s1 wk (It.cls_two it fl) h3 cn hD (fun A' H2 d x o R1 R0 er2 cx ho k1 k0 => ?_) fun H' s' val => Rs.ok h _ H' s' val (val.cn (dispC_le _) er.ok s')
      obtain ⟨env', e1, ho⟩ := bind_inv ho
      obtain ⟨b, e2, ho⟩ := boolD_inv ho
      have e2 := calm_inv e2
      refine gTg_ok (er2.wipe tg) (It.cls_two it fl) cx e1 fun σ' er3 hw => ⟨by rw [hw tg fun _ h => h]; exact wipe_idem tg, ?_⟩
      refine ⟨env', _, A', er3, ?_⟩
      rw [e2]
      refine ⟨b, rfl, fun H4 s4 => ?_⟩
      cases b with
      | true =>
        rw [if_pos rfl]
        obtain ⟨z, e3, ho⟩ := bind_inv (show ((e.sem G env').calm).bind (fun x => Res.ok (some x)) = .ok o from ho)
        have e3 := calm_inv e3
        have : o = some z := (Res.ok.inj ho).symm
        subst this
        refine ⟨env', _, A', er3.same s4, ?_⟩
        rw [e3]
        exact fun v H5 s5 val _ => k1 z v H5 rfl (s4.trans s5) (Val.since s4 val)
      | false =>
        rw [if_neg Bool.false_ne_true]
        have : o = none := (Res.ok.inj (show Res.ok none = Res.ok o from ho)).symm
        exact k0 H4 this s4
    · have hm : e.cls rc (setFl tg (it.cls rc fl) fl) ≤ 2 ∨ e.cls rc (setFl tg (it.cls rc fl) fl) = 9 := by
        have := E.cls_le g.rcl e (setFl tg (it.cls rc fl) fl)
        omega
      refine comp_core er hr hlen s1 wk (It.cls_two it fl) hm cn hD (fun A' H2 d x o R1 R0 er2 cx ho k1 k0 => ?_) fun H' s' val => Rs.ok h _ H' s' val (val.cn (dispC_le _) er.ok s')
      obtain ⟨env', e1, ho⟩ := bind_inv ho
      obtain ⟨b, e2, ho⟩ := boolD_inv ho
      have e2 := calm_inv e2
      refine gTg_ok (er2.wipe tg) (It.cls_two it fl) cx e1 fun σ' er3 hw => ⟨by rw [hw tg fun _ h => h]; exact wipe_idem tg, ?_⟩
      refine ⟨env', _, A', er3, ?_⟩
      rw [e2]
      refine ⟨b, rfl, fun H4 s4 => ?_⟩
      cases b with
      | true =>
        rw [if_pos rfl]
        obtain ⟨z, e3, ho⟩ := bind_inv (show ((e.sem G env').calm).bind (fun x => Res.ok (some x)) = .ok o from ho)
        have e3 := calm_inv e3
        have : o = some z := (Res.ok.inj ho).symm
        subst this
        refine ⟨env', _, A', er3.same s4, ?_⟩
        rw [e3]
        exact fun v H5 s5 val _ => k1 z v H5 rfl (s4.trans s5) (val.clo (Nat.le_refl _) (E.cls_le g.rcl e _) hm (er3.ok.same s4))
      | false =>
        rw [if_neg Bool.false_ne_true]
        have : o = none := (Res.ok.inj (show Res.ok none = Res.ok o from ho)).symm
        exact k0 H4 this s4
end
end Tr

/-! Own exceptions and the own class: expressions. -/
namespace Tr
open PySem PySem.Spec PyProof.Rows L2

/-! ### calls of methods, of the class itself: what is raised is wished for at the caller's slots -/
def tMethX (C : Addr) (m : Str) (sp : Sp) (E : L2.St → XK) (ta : TE) (t : TA) : TE := fun σ H Q => ta σ H fun x H1 => ∃ a dx fs, x = .ref a ∧ H1 a = some (.ins C dx fs) ∧ fs.lookup m = none ∧ t σ H1 fun vs H2 => sp (x :: vs) H2 Q (E σ)
def tMakeX (C : Addr) (sp : Sp) (E : L2.St → XK) (t : TA) : TE := fun σ H Q => t σ H fun vs H1 => ∀ x dx, H1 x = none → H1 dx = none → dx ≠ x → sp (.ref x :: vs) (upd (upd H1 dx (.own x)) x (.ins C dx [])) (fun v H2 => v = .non ∧ Q (.ref x) H2) (E σ)
section
variable {X : Cx} {k : Nat} {g C : Addr} {fd : FuncData} {ps : List Str} {sp : Sp} {E : L2.St → XK} {x m : Str} {q0 pos apos : Pos} {e o : Expr} {es : List Expr} {ta : TE} {t : TA}
theorem pe_methX {pl : Sem Bool} (he : PE X o ta) (c : Cls X.K C) (hm : Meth X.K C m g) (F : FnOk X.prog X.w X.K X.mg X.base (L2.CX X.prog X.w) k g fd ps sp) (hr : Room k X.A) (hb : Binds X.K fd ps []) (hx : ∀ σ, PassesAt (L2.CX X.prog X.w) X σ (E σ)) (ha : PA X (e :: es) t)
    (st : starEach (e :: es) X.env = (false, eval e X.env) :: starEach es X.env) (nl : (backTo pos (starEach es X.env)).any (·.1) = false)
    (tx : eval (.Call (.Attribute o m apos) (e :: es) [] pos) X.env = (do { let ov ← eval o X.env; standAt apos.atName; let (f, first) ← holding [ov] (getMethod ov m pl); callWith pos f first (backTo pos (starEach (e :: es) X.env)) (backToKw pos (keywordEach [] X.env)) })) :
    PE X (.Call (.Attribute o m apos) (e :: es) [] pos) (tMethX C m sp E ta t) := ⟨fun pins s σ H Q I h => by
  refine PySem.W.methodCall_KW (pl := pl) (thn (he.run pins s σ H _ I h) ?_) tx
  rintro u s1 ⟨x, H1, I1, rx, a, dx, fs, rfl, ea, l, q⟩
  cases (show u = Value.ref a from rx)
  refine getmeth_ok I1 ea c hm l (PySem.W.callWith_K (first := [.ref a]) (h₀ := X.base) I.ok.mod.kin hm.kp (thn (ha.run pos pins s1 σ H1 _ I1 q) ?_) st nl)
  rintro us s2 ⟨vs, H2, I2, r, q2⟩
  exact ⟨I2.kIn, run_fnS (us := Value.ref a :: us) (vs := V.ref a :: vs) F hr hb (hx σ) I2 (.cons rfl r) q2⟩⟩
theorem pe_methX0 {pl : Sem Bool} (he : PE X o ta) (c : Cls X.K C) (hm : Meth X.K C m g) (F : FnOk X.prog X.w X.K X.mg X.base (L2.CX X.prog X.w) k g fd ps sp) (hr : Room k X.A) (hb : Binds X.K fd ps []) (hx : ∀ σ, PassesAt (L2.CX X.prog X.w) X σ (E σ)) (ht : ∀ σ H K, t σ H K → K [] H)
    (tx : eval (.Call (.Attribute o m apos) [] [] pos) X.env = (do { let ov ← eval o X.env; standAt apos.atName; let (f, first) ← holding [ov] (getMethod ov m pl); callWith pos f first (backTo pos (starEach [] X.env)) (backToKw pos (keywordEach [] X.env)) })) :
    PE X (.Call (.Attribute o m apos) [] [] pos) (tMethX C m sp E ta t) := ⟨fun pins s σ H Q I h => by
  refine PySem.W.methodCall_KW (pl := pl) (thn (he.run pins s σ H _ I h) ?_) tx
  rintro u s1 ⟨x, H1, I1, rx, a, dx, fs, rfl, ea, l, q⟩
  cases (show u = Value.ref a from rx)
  exact getmeth_ok I1 ea c hm l (PySem.W.callWith_K0 (first := [.ref a]) I1.kIn hm.kp (run_fnS (us := [Value.ref a]) (vs := [V.ref a]) F hr hb (hx σ) I1 (.cons rfl .nil) (ht _ _ _ q)))⟩
theorem run_makeX {pins : List (Addr × Obj)} {σ : L2.St} {H : Hp} {s : Shared} {Q : VK} {us : List Value} {vs : List V} (M : Mk X.K C g) (F : FnOk X.prog X.w X.K X.mg X.base (L2.CX X.prog X.w) k g fd ps sp) (hr : Room (k + 1) X.A) (hb : Binds X.K fd ps []) (hx : PassesAt (L2.CX X.prog X.w) X σ (E σ)) (I : Inv X pins σ H s) (r : Vals vs us)
    (h : ∀ x dx, H x = none → H dx = none → dx ≠ x → sp (.ref x :: vs) (upd (upd H dx (.own x)) x (.ins C dx [])) (fun v H2 => v = .non ∧ Q (.ref x) H2) (E σ)) : wpAny (model X.prog X.w) X.A (call (.ref C) us) (EP X pins σ Q) X.xe s := by
  let b0 := s.heap.objs.size
  have hq := h (b0 + 1) b0 (I.hok.fresh (Nat.le_succ _)) (I.hok.fresh (Nat.le_refl _)) (Nat.ne_of_lt (Nat.lt_succ_self _))
  have I2 := Inv.made (C := C) I
  have r2 : Vals (V.ref (b0 + 1) :: vs) (Value.ref (b0 + 1) :: us) := .cons rfl r
  have hl : (Value.ref (b0 + 1) :: us).length = ps.length := r2.length.symm.trans (F.len _ _ _ _ hq)
  have bd := hb _ (Value.ref (b0 + 1) :: us) I2.kIn (by rw [List.append_nil]; exact hl)
  rw [List.append_nil] at bd
  have go := F.run _ X.stack _ _ ⟨Value.ref (b0 + 1) :: us, []⟩ (Value.ref (b0 + 1) :: us) _ _ (E σ) (hr.make C us []) (I2.env0.make C us []) bd r2 hq
  refine wpAny_call (make_map (f := g) I.kIn M.makes M.init (beq_iff_eq.mp M.fn) (codeAny_mono go ?_))
  intro r s' z
  cases r with
  | error e => exact hx pins _ _ e s' I2 z
  | ok fl =>
    cases fl with
    | ret u =>
      obtain ⟨v, H', I3, rv, rfl, q3⟩ := I2.after z
      exact ⟨rv, V.ref (b0 + 1), H', I3, rfl, q3⟩
    | _ => exact z.elim
theorem pe_makeX (M : Mk X.K C g) (F : FnOk X.prog X.w X.K X.mg X.base (L2.CX X.prog X.w) k g fd ps sp) (hr : Room (k + 1) X.A) (hg : Gl X x) (hm : X.mg x = some (.ref C)) (hb : Binds X.K fd ps []) (hx : ∀ σ, PassesAt (L2.CX X.prog X.w) X σ (E σ)) (ha : PA X (e :: es) t)
    (nd : (x == ("__debug__" : Str)) = false) (st : starEach (e :: es) X.env = (false, eval e X.env) :: starEach es X.env) (nl : (backTo pos (starEach es X.env)).any (·.1) = false) : PE X (.Call (.Name x q0) (e :: es) [] pos) (tMakeX C sp E t) := ⟨fun pins s σ H Q I h => by
  refine wpAny_Call_Name_kw (ld_glob I hg hm (PySem.W.callWith_K (h₀ := X.base) I.ok.mod.kin M.kp (thn (ha.run pos pins s σ H _ I h) ?_) st nl) nd)
  rintro us s1 ⟨vs, H1, I1, r, q⟩
  exact ⟨I1.kIn, run_makeX M F hr hb (hx σ) I1 r q⟩⟩
end

/-! ### an exception that is held -/
theorem ext_get {P : Program} {w : World} {H : Hp} {h : Heap} {a : Addr} {cls : Value} {dd : Option Addr} (ok : HOk P w H h) (e : H a = some (ExH cls dd a)) : ∃ oe vs, h.get? a = some oe ∧ Zc cls dd oe ∧ oe.data = .fields vs := by
  have x : ObjOk P w H h a (.ext fun h => ∃ (oe : Obj) (vs : Array Value), h.get? a = some oe ∧ Zc cls dd oe ∧ oe.data = .fields vs) := ok a _ e
  exact x.1
theorem inst_of {P : Program} {w : World} {H : Hp} {h : Heap} {a C : Addr} {fs : List (Str × Int)} {dd : Option Addr} (ok : HOk P w H h) (e : H a = some (ExH (.ref C) dd a)) (x : XD H fs dd) :
    ∃ oe od, PySem.W.InstAt h a oe C od ∧ ∀ f i, fs.lookup f = some i → ∃ o u, od = some o ∧ RelV (V.int i) u ∧ PySem.W.lookIn f o = some (some u) := by
  obtain ⟨oe, vs, h1, hz, hd⟩ := ext_get ok e
  have nc : PySem.W.notCls oe = true := by unfold PySem.W.notCls; rw [hd] <;> rfl
  rcases x with ⟨rfl, rfl⟩ | ⟨d, gs, rfl, hg, hl⟩
  · exact ⟨oe, none, ⟨h1, hz.1, nc, by rw [hz.2]; trivial⟩, fun f i z => by cases z⟩
  · obtain ⟨mA, hns, hr⟩ := (show ObjOk P w H h d (.xd gs) from ok d _ hg)
    obtain ⟨od, ho, hk⟩ := lookIn_ns hns
    refine ⟨oe, some od, ⟨h1, hz.1, nc, by rw [hz.2]; exact ho⟩, fun f i z => ?_⟩
    obtain ⟨u, hu, ru⟩ := RelO.some_of (v := .int i) (o := mA f) (by rw [← hl f i z]; exact hr f)
    exact ⟨od, u, rfl, ru, by rw [hk f, hu]⟩
/-- isinstance of a held exception -/
def rXi (K : PySem.W.Frag) : List V → Hp → VK → Prop := fun xs H Q => ∃ (a C : Addr) (dd : Option Addr) (fs : List (Str × Int)) (c : V) (u : Value) (b : Bool), xs = [.ref a, c] ∧ ClsV c u ∧ H a = some (ExH (.ref C) dd a) ∧ XD H fs dd ∧
  (∃ oe od, PySem.W.KitX K (.ref a) (.ref C) (fun h => PySem.W.InstAt h a oe C od) ∨ True) ∧ (∀ oe od, PySem.W.KitX K (.ref a) (.ref C) (fun h => PySem.W.InstAt h a oe C od)) ∧ PySem.W.kitOne K (.ref C) u = some b ∧ Q (.bl b) H
def rXiT (K : PySem.W.Frag) : List V → Hp → VK → Prop := fun xs H Q => ∃ (a C tp : Addr) (dd : Option Addr) (fs : List (Str × Int)) (cs : List V) (us : List Value) (b : Bool), xs = [.ref a, .ref tp] ∧ H tp = some (.tup cs) ∧ Paired ClsV cs us ∧ H a = some (ExH (.ref C) dd a) ∧ XD H fs dd ∧
  (∀ oe od, PySem.W.KitX K (.ref a) (.ref C) (fun h => PySem.W.InstAt h a oe C od)) ∧ PySem.W.kitAny K (.ref C) us = some b ∧ Q (.bl b) H
section
variable {X : Cx}
theorem call_xi : CallR X (.builtin "isinstance") (rXi X.K) := by
  rintro pins s σ H xs us Q I r ⟨a, C, dd, fs, c, u, b, rfl, k, ea, xd, _, Z, e, q⟩
  obtain ⟨u1, u2, rfl, r1, r2⟩ := vals2 r
  cases (show u1 = Value.ref a from r1)
  cases k.eq r2
  obtain ⟨oe, od, J, _⟩ := inst_of I.hok ea xd
  exact PySem.W.kia_one (Z oe od) I.kIn J e (fun z => nomatch z) fun tk => ⟨.bl b, H, I.tok tk, rfl, q⟩
theorem call_xiT : CallR X (.builtin "isinstance") (rXiT X.K) := by
  rintro pins s σ H xs us Q I r ⟨a, C, tp, dd, fs, cs, ws, b, rfl, hT, k, ea, xd, Z, e, q⟩
  obtain ⟨u1, u2, rfl, r1, r2⟩ := vals2 r
  cases (show u1 = Value.ref a from r1)
  cases (show u2 = Value.ref tp from r2)
  obtain ⟨oe, od, J, _⟩ := inst_of I.hok ea xd
  obtain ⟨_, its, rv, o, h1, h2, n, h3⟩ := (show ObjOk X.prog X.w H s.heap tp (.tup cs) from I.hok tp _ hT)
  cases ClsV.all k rv
  obtain ⟨oc, od', dt, sl⟩ := o
  simp only at h2 h3
  subst h2 h3
  exact PySem.W.kia_tup (Z oe od) I.kIn J h1 e (fun z => nomatch z) fun tk => ⟨.bl b, H, I.tok tk, rfl, q⟩
/-- a field of a held exception -/
def tXfH (K : PySem.W.Frag) (f : Str) (te : TE) : TE := fun σ H Q => te σ H fun x H1 => ∃ (a C : Addr) (dd : Option Addr) (fs : List (Str × Int)) (i : Int), x = .ref a ∧ H1 a = some (ExH (.ref C) dd a) ∧ XD H1 fs dd ∧ fs.lookup f = some i ∧ RaiseOk K C ∧ PySem.W.findIn K (.ref C) f = some none ∧ Q (.int i) H1
theorem pe_xfH {e : Expr} {te : TE} {pos : Pos} {n : Str} (he : PE X e te) (hb : attributeBase e n X.env (eval e X.env) = eval e X.env) : PE X (.Attribute e n pos) (tXfH X.K n te) := ⟨fun pins s σ H Q I h => by
  refine attr_of hb (thn (he.run pins s σ H _ I h) ?_)
  rintro u s1 ⟨x, H1, I1, rx, a, C, dd, fs, i, rfl, ea, xd, l, T, hno, q⟩
  cases (show u = Value.ref a from rx)
  obtain ⟨oe, od, J, hf⟩ := inst_of I1.hok ea xd
  obtain ⟨o, w, rfl, ru, hk⟩ := hf _ _ l
  exact HandSPX.exc_get I1.kIn J T.ga T.gg T.sub (PySem.W.findObj_own T.hd hno rfl hk) (handed_of ru) ⟨.int i, H1, I1.tok _, ru, q⟩⟩
end
section
variable {X : Cx} {pins : List (Addr × Obj)} {σ : L2.St} {H : Hp} {s : Shared}
theorem exh_ok {P : Program} {w : World} {H : Hp} {h : Heap} {a : Addr} {cls : Value} {dd : Option Addr} {oe : Obj} {vs : Array Value} (e : h.get? a = some oe) (z : Zc cls dd oe) (d : oe.data = .fields vs) : ObjOk P w H h a (ExH cls dd a) :=
  ⟨⟨oe, vs, e, z, d⟩, ⟨oe, e⟩, fun _ _ ⟨o, v, q, r⟩ k => ⟨o, v, k o q, r⟩⟩
/-- the caught exception is known from now on -/
theorem hold_in {a : Addr} {oe : Obj} {vs : Array Value} {cls : Value} {dd : Option Addr} (I : Inv X pins σ H s) (ha : s.heap.get? a = some oe) (hz : Zc cls dd oe) (hd : oe.data = .fields vs) (na : H a = none) (nL : a ≠ X.env.locals)
    (n0 : X.s_0.heap.get? a = none) (np : ∀ q ∈ X.pn ++ pins, q.1 ≠ a) : Inv (X.suite a (X.pn ++ pins)) [] σ (upd H a (ExH cls dd a)) s := by
  have ne : ∀ {b : Addr} {o : HO}, H b = some o → b ≠ a := fun {b o} q z => by rw [z, na] at q; cases q
  have neC : ∀ x c, X.env.cells.lookup x = some c → c ≠ a := fun x c e z => by
    obtain ⟨v, o, ho, hv⟩ := I.cell x c e
    rw [z, ha] at ho
    cases ho
    rw [hd] at hv
    cases hv
  refine ⟨I.ok.suite _ _, I.os, I.bare, ⟨I.base.keep, I.base.slot, fun b o e n hx => ?_, I.base.there, fun b xs e => ?_, fun b o u e => ?_, fun b ps e => ?_⟩, I.loc, I.cell, ?_, fun x c e => ?_, fun q hq => ?_, fun b u e => ?_, I.len⟩
  · rw [upd_ne (fun z => by rw [z, n0] at e; cases e)]
    exact I.base.free b o e n hx
  · have q := I.base.tups b xs e
    rw [upd_ne (ne q)]; exact q
  · have q := I.base.frzs b o u e
    rw [upd_ne (ne q)]; exact q
  · obtain ⟨m, q⟩ := I.base.tbls b ps e
    exact ⟨m, by rw [upd_ne (ne q)]; exact q⟩
  · show upd H a _ X.env.locals = none
    rw [upd_ne (Ne.symm nL)]; exact I.free
  · rw [upd_ne (neC x c e)]
    exact I.freeC x c e
  · have hq' : q ∈ X.pn ++ pins := by rw [List.append_nil] at hq; exact hq
    obtain ⟨p1, p2, p3, p4, p5⟩ := I.pin q hq'
    exact ⟨p1, by rw [upd_ne (np q hq')]; exact p2, p3, p4, p5⟩
  · by_cases hb : b = a
    · subst hb
      rw [upd_same] at e; cases e
      exact exh_ok ha hz hd
    · rw [upd_ne hb] at e
      exact (I.hok b u e).stay (fun _ _ _ q => q) (fun c q => by rw [upd_ne (ne q)]; exact q) fun c xs q => by rw [upd_ne (ne q)]; exact q
theorem hold_out {a : Addr} {pn' : List (Addr × Obj)} (I : Inv (X.suite a (X.pn ++ pins)) pn' σ H s) (ok : X.Ok) : Inv X pins σ H s where
  ok := ok
  os := I.os
  bare := I.bare
  base := I.base
  loc := I.loc
  cell := I.cell
  free := I.free
  freeC := I.freeC
  pin := fun q hq => I.pin q (List.mem_append_left _ hq)
  hok := I.hok
  len := I.len
end
theorem noCXe {P : Program} {w : World} {l : List PySem.Env} {H : Hp} {s : Shared} {e : Value} {s' : Shared} (h : L2.CX P w l H s (fun _ _ _ => False) e s') : False := by
  obtain ⟨a, B, H', cls, d, _, _, _, _, _, _, _, z⟩ := h
  exact z
/-- an exception that is made, as a value -/
def tMkE (t : L2.St → Hp → XK → Prop) : TE := fun σ H Q => t σ H fun cls d H' => ∀ a, H' a = none → Q (.ref a) (upd H' a (ExH cls d a))
theorem pe_mkE {X : Cx} {e : Expr} {t : L2.St → Hp → XK → Prop} (hex : X.ex = []) (he : PMk X e t) : PE X e (tMkE t) := ⟨fun pins s σ H Q I h => by
  refine wpAny_mono (he pins s σ H _ I h) (fun u s1 hu => ?_) fun _ _ z => z
  obtain ⟨a, oe, vs, sI, H', cls, d, rfl, J, k, hne, ha, hz, hd, h1, na, os, ag, r, q⟩ := hu
  have K := J.kept (t' := s1.toks) k
  have K1 : Inv X pins σ H' s1 := ⟨K.ok, os.trans J.os, ag, K.base, K.loc, K.cell, K.free, K.freeC, K.pin, K.hok, K.len⟩
  have nI : ∀ o, sI.heap.get? a ≠ some o := fun o e => by rw [hne] at e; cases e
  have n0 : X.s_0.heap.get? a = none := by
    cases e : X.s_0.heap.get? a with
    | none => rfl
    | some o =>
      obtain ⟨o', z⟩ := J.base.there a o e (by rw [hex]; exact fun q => nomatch q)
      exact absurd z (nI o')
  have npn : ∀ q ∈ X.pn ++ pins, q.1 ≠ a := fun q hq z => by
    have z1 := (J.pin q hq).1
    rw [z] at z1
    exact nI _ z1
  have nL : a ≠ X.env.locals := fun z => by
    obtain ⟨m, ⟨o, es, ep, ho, _⟩, _⟩ := J.loc
    rw [← z] at ho
    exact nI _ ho
  exact ⟨.ref a, _, hold_out (hold_in K1 ha hz hd na nL n0 npn) J.ok, rfl, q a na⟩⟩
end Tr

/-! Own exceptions and the own class: expressions, what they mean. -/
namespace Tr
open PySem PySem.Spec PyProof.Rows L2
section
variable {X : Cx} {p : Pm} {T : Nm} {G : Gam} {rc : Nat → Nat} {kk : Nat} {W : WX} {a b c e : E} {l r : Expr} {pos : Pos}
theorem type_ref {n : String} {a : Addr} : (Value.type n == Value.ref a) = false := by rw [beq_eq_false_iff_ne]; intro z; cases z
theorem ref_type {n : String} {a : Addr} : (Value.ref a == Value.type n) = false := by rw [beq_eq_false_iff_ne]; intro z; cases z
theorem Xok.kit (x : Xok p T) {c d : Nat} {n : Str} (hc : c ∈ p.xr) (hd : T.x[d]? = some n) (h0 : d ≠ 0) : PySem.W.kitOne p.K (.ref (p.cad c)) (.ref (p.cad d)) = some (decide (c = d)) := by
  by_cases e : c = d
  · subst e
    unfold PySem.W.kitOne
    rw [if_pos (by simp)]
    simp
  · have h1 := x.sub c hc d n hd
    rw [decide_eq_false h0, decide_eq_false e] at h1
    obtain ⟨k1, k2, k3⟩ := x.kp d n hd
    have ne : p.cad c ≠ p.cad d := fun z => by
      obtain ⟨l1, l2⟩ := x.rs c hc
      have h2 := x.sub c hc c _ (List.getElem?_eq_getElem l1)
      rw [← z, h2] at h1
      simp at h1
    unfold PySem.W.kitOne
    rw [if_neg (by simpa using ne)]
    show (if ((PySem.W.clsIn p.K (p.cad d)).isSome && PySem.W.typeIn p.K (.ref (p.cad d)) == some (.type "type")) = true then PySem.W.subIn p.K (.ref (p.cad c)) (.ref (p.cad d)) else none) = _
    rw [if_pos (by rw [k2, k3]; rfl), h1, decide_eq_false e]
    rfl
theorem Xok.kitN (x : Xok p T) {d : Nat} {n : Str} (hd : T.x[d]? = some n) : PySem.W.kitOne p.K (.type "NoneType") (.ref (p.cad d)) = some false := by
  obtain ⟨k1, k2, k3⟩ := x.kp d n hd
  unfold PySem.W.kitOne
  rw [if_neg (by rw [type_ref]; decide)]
  show (if ((PySem.W.clsIn p.K (p.cad d)).isSome && PySem.W.typeIn p.K (.ref (p.cad d)) == some (.type "type")) = true then PySem.W.subIn p.K (.type "NoneType") (.ref (p.cad d)) else none) = _
  rw [if_pos (by rw [k2, k3]; rfl), x.non d n hd]
theorem Xok.kitV (x : Xok p T) {c : Nat} (hc : c ∈ p.xr) : PySem.W.kitOne p.K (.ref (p.cad c)) (.type "ValueError") = some true := by
  unfold PySem.W.kitOne
  rw [if_neg (by rw [ref_type]; decide)]
  show (if PySem.W.kitMeta "ValueError" = true then PySem.W.subIn p.K (.ref (p.cad c)) (.type "ValueError") else none) = _
  rw [if_pos (by decide +kernel), x.ve c hc]
theorem Xok.kx (x : Xok p T) {c : Nat} (hc : c ∈ p.xr) (ad : Addr) (oe : Obj) (od : Option Obj) : PySem.W.KitX p.K (.ref ad) (.ref (p.cad c)) (fun h => PySem.W.InstAt h ad oe (p.cad c) od) := by
  obtain ⟨l1, l2⟩ := x.rs c hc
  obtain ⟨k1, k2, k3⟩ := x.kp c _ (List.getElem?_eq_getElem l1)
  obtain ⟨s1, s2⟩ := x.sp (List.ne_nil_of_mem hc)
  have ra := x.ra c hc
  exact PySem.W.kitx_exc k2 ra.ga ra.gg ra.sub ra.ca s1 s2 ra.mo
/-- classes by their names -/
def tRefs (p : Pm) : List Nat → TA
  | [] => tNil
  | c :: cs => tCons (tC (.ref (p.cad c))) (tRefs p cs)
theorem tRefs_go {σ : L2.St} {H : Hp} {K : List V → Hp → Prop} : ∀ {cs : List Nat}, K (cs.map fun c => V.ref (p.cad c)) H → tRefs p cs σ H K
  | [], h => h
  | c :: cs, h => tRefs_go (cs := cs) (K := fun vs H2 => K (.ref (p.cad c) :: vs) H2) h
/-- what isinstance asks of the context -/
structure Good1 (p : Pm) (T : Nm) (X : Cx) : Prop where
  nd : X.N.Nodup
  kq : X.K = p.K
  blt : ∀ b ∈ bltNames, X.mg b = none
  xok : Xok p T
  xmg : ∀ c x, T.x[c]? = some x → X.mg x = some (.ref (p.cad c))
theorem Good.g1 (g : Good p T G rc kk W X) : Good1 p T X := ⟨g.nd, g.kq, g.blt, g.xok, g.xmg⟩
section
variable (g : Good1 p T X)
include g
theorem refs_ok : ∀ {cs : List Nat} {es : List Expr}, clsNs T X.env.scope cs es = true → PA X es (tRefs p cs) ∧ (∀ e ∈ es, plainX e = true) ∧ ∀ c ∈ cs, c ≠ 0 ∧ ∃ n, T.x[c]? = some n
  | [], [], _ => ⟨pa_nil, fun e h => by (cases h), fun c h => by (cases h)⟩
  | [], _ :: _, h => by unfold clsNs at h; cases h
  | _ :: _, [], h => by unfold clsNs at h; cases h
  | c :: cs, e :: es, h => by
    cases e with
    | Name n q =>
      unfold clsNs at h
      simp only [Bool.and_eq_true, decide_eq_true_eq] at h
      obtain ⟨⟨⟨⟨h1, h2⟩, h3⟩, h4⟩, h5⟩ := h
      obtain ⟨i1, i2, i3⟩ := refs_ok h5
      refine ⟨pa_cons (pe_glob (gl_of h2) (g.xmg c n h1) rfl (nm_of h3).1) i1 (star_cons rfl), fun e he => ?_, fun d hd => ?_⟩
      · rcases List.mem_cons.mp he with rfl | he
        · rfl
        · exact i2 e he
      · rcases List.mem_cons.mp hd with rfl | hd
        · exact ⟨h4, n, h1⟩
        · exact i3 d hd
    | _ => unfold clsNs at h; cases h
omit g in
theorem clsV_all : ∀ (cs : List Nat), Paired ClsV (cs.map fun c => V.ref (p.cad c)) (cs.map fun c => Value.ref (p.cad c))
  | [] => .nil
  | c :: cs => .cons (.own _) (clsV_all cs)
omit g in
theorem kitAny_own (x : Xok p T) {c : Nat} (hc : c ∈ p.xr) : ∀ {cs : List Nat}, (∀ d ∈ cs, d ≠ 0 ∧ ∃ n, T.x[d]? = some n) → PySem.W.kitAny p.K (.ref (p.cad c)) (cs.map fun c => Value.ref (p.cad c)) = some (cs.contains c)
  | [], _ => rfl
  | d :: cs, h => by
    obtain ⟨h0, n, hn⟩ := h d List.mem_cons_self
    refine kitAny_cons (x.kit hc hn h0) (fun e => ?_) fun e => ?_
    · rw [kitAny_own x hc fun d' hd' => h d' (List.mem_cons_of_mem _ hd')]
      have : ¬ c = d := of_decide_eq_false e
      simp [this]
    · have : c = d := of_decide_eq_true e
      simp [this]
omit g in
theorem kitAny_non (x : Xok p T) : ∀ {cs : List Nat}, (∀ d ∈ cs, d ≠ 0 ∧ ∃ n, T.x[d]? = some n) → PySem.W.kitAny p.K (.type "NoneType") (cs.map fun c => Value.ref (p.cad c)) = some false
  | [], _ => rfl
  | d :: cs, h => by
    obtain ⟨h0, n, hn⟩ := h d List.mem_cons_self
    exact kitAny_cons (x.kitN hn) (fun _ => kitAny_non x fun d' hd' => h d' (List.mem_cons_of_mem _ hd')) fun e => by cases e
/-- isinstance(l, (C, ..)) -/
theorem isX_tup {H : Hp} {Q : VK} {cs : List Nat} {x : D} {v : V} {av : Addr → Prop} (hcs : ∀ d ∈ cs, d ≠ 0 ∧ ∃ n, T.x[d]? = some n) (rx : Rep p H av x v) {tp : Addr} (ht : H tp = some (.tup (cs.map fun c => V.ref (p.cad c))))
    (h : ∃ b, isXD cs x = .ok (.bl b) ∧ Q (.bl b) H) : rIsiT X.K [v, .ref tp] H Q ∨ rXiT X.K [v, .ref tp] H Q := by
  rw [g.kq]
  cases x with
  | non =>
    obtain rfl : v = .non := rx
    obtain ⟨b, eb, q⟩ := h
    cases eb
    exact .inl ⟨_, tp, _, _, _, _, rfl, ht, clsV_all cs, .base .non, kitAny_non g.xok hcs, q⟩
  | exc c fs =>
    obtain ⟨ad, dd, rfl, ha, hx, hc⟩ := rx
    obtain ⟨b, eb, q⟩ := h
    cases eb
    exact .inr ⟨ad, _, tp, dd, fs, _, _, _, rfl, ht, clsV_all cs, ha, hx, fun oe od => g.xok.kx hc ad oe od, kitAny_own g.xok hc hcs, q⟩
  | _ => obtain ⟨b, eb, _⟩ := h; cases eb
theorem isX_one {H : Hp} {Q : VK} {c : Nat} {x : D} {v : V} {av : Addr → Prop} {n : Str} (h0 : c ≠ 0) (hn : T.x[c]? = some n) (rx : Rep p H av x v)
    (h : ∃ b, isXD [c] x = .ok (.bl b) ∧ Q (.bl b) H) : rIsi X.K [v, .ref (p.cad c)] H Q ∨ rXi X.K [v, .ref (p.cad c)] H Q := by
  rw [g.kq]
  cases x with
  | non =>
    obtain rfl : v = .non := rx
    obtain ⟨b, eb, q⟩ := h
    cases eb
    exact .inl ⟨_, _, _, _, _, rfl, .own _, .base .non, g.xok.kitN hn, q⟩
  | exc c' fs =>
    obtain ⟨ad, dd, rfl, ha, hx, hc⟩ := rx
    obtain ⟨b, eb, q⟩ := h
    cases eb
    refine .inr ⟨ad, _, dd, fs, _, _, _, rfl, .own _, ha, hx, ⟨default, none, .inr trivial⟩, fun oe od => g.xok.kx hc ad oe od, g.xok.kit hc hn h0, ?_⟩
    have : ([c].contains c') = decide (c' = c) := by
      by_cases e : c' = c
      · simp [e]
      · simp [e]
    rw [← this]
    exact q
  | _ => obtain ⟨b, eb, _⟩ := h; cases eb
theorem isVE_one {H : Hp} {Q : VK} {x : D} {v : V} {av : Addr → Prop} (rx : Rep p H av x v) (h : ∃ b, isVED x = .ok (.bl b) ∧ Q (.bl b) H) : rIsi X.K [v, .ty "ValueError"] H Q ∨ rXi X.K [v, .ty "ValueError"] H Q := by
  rw [g.kq]
  cases x with
  | non =>
    obtain rfl : v = .non := rx
    obtain ⟨b, eb, q⟩ := h
    cases eb
    exact .inl ⟨_, _, _, _, _, rfl, .ty _, .base .non, kit_ty (by decide +kernel), q⟩
  | exc c' fs =>
    obtain ⟨ad, dd, rfl, ha, hx, hc⟩ := rx
    obtain ⟨b, eb, q⟩ := h
    cases eb
    exact .inr ⟨ad, _, dd, fs, _, _, _, rfl, .ty _, ha, hx, ⟨default, none, .inr trivial⟩, fun oe od => g.xok.kx hc ad oe od, g.xok.kitV hc, q⟩
  | _ => obtain ⟨b, eb, _⟩ := h; cases eb
/-- isinstance(l, z) by the check, for any reading of l -/
def tIsX (p : Pm) (f : D → Res D) (ta : TE) : TE := fun σ H Q => ta σ H fun v H1 => ∃ (x : D) (av : Addr → Prop), Rep p H1 av x v ∧ ∀ H2, Same H1 H2 → ∃ b, f x = .ok (.bl b) ∧ Q (.bl b) H2
theorem is_any {ta : TE} {cs : List Nat} {tp : Bool} {n : Str} {z : Expr} {q : Pos} (ha : PE X l ta) (hn : n = "isinstance") (hg : glB X.env.scope n = true) (hl : plainX l = true) (hz : chkCls T cs tp X.env.scope z = true) (mono : ∀ {σ H} {Q Q' : VK}, (∀ v H, Q v H → Q' v H) → ta σ H Q → ta σ H Q') :
    PE X (.Call (.Name n q) [l, z] [] pos) (tIsX p (isXD cs) ta) := by
  subst hn
  unfold chkCls at hz
  split at hz
  · rename_i es k tpos
    rw [Bool.and_eq_true, decide_eq_true_eq] at hz
    obtain ⟨ln, hz⟩ := hz
    obtain ⟨i1, i2, i3⟩ := refs_ok g hz
    refine (pe_callB (call_isiT.or call_xiT) (gl_of hg) (g.blt _ (by decide)) (by decide +kernel) (pa_cons ha (pa_cons (pe_tup i1) pa_nil (star_cons rfl)) (star_cons hl)) (by decide) (by decide) (star_cons hl) (star_any fun e he => by rw [List.mem_singleton.mp he]; rfl)).imp fun σ H Q h => ?_
    refine mono (fun v H1 h => ?_) h
    obtain ⟨x, av, rx, h⟩ := h
    refine tRefs_go ⟨by rw [List.length_map, sizeLine_eq]; omega, fun tp hn => ?_⟩
    exact isX_tup g i3 (rx.same (same_upd hn)) upd_same (h _ (same_upd hn))
  · rename_i n q2
    simp only [Bool.and_eq_true, decide_eq_true_eq] at hz
    obtain ⟨h1, hz⟩ := hz
    match cs, h1, hz with
    | [c], _, hz =>
      obtain ⟨i1, i2, i3⟩ := refs_ok g hz
      obtain ⟨h0, m, hm⟩ := i3 c List.mem_cons_self
      have hc : PE X (.Name n q2) (tC (.ref (p.cad c))) := by
        unfold clsNs at hz
        simp only [Bool.and_eq_true, decide_eq_true_eq] at hz
        obtain ⟨⟨⟨⟨h1, h2⟩, h3⟩, h4⟩, h5⟩ := hz
        exact pe_glob (gl_of h2) (g.xmg c n h1) rfl (nm_of h3).1
      refine (pe_callB (call_isi.or call_xi) (gl_of hg) (g.blt _ (by decide)) (by decide +kernel) (pa_cons ha (pa_cons hc pa_nil (star_cons rfl)) (star_cons hl)) (by decide) (by decide) (star_cons hl) (star_any fun e he => by rw [List.mem_singleton.mp he]; rfl)).imp fun σ H Q h => ?_
      refine mono (fun v H1 h => ?_) h
      obtain ⟨x, av, rx, h⟩ := h
      exact isX_one g h0 hm rx (h H1 fun _ _ e => e)
  · cases hz
theorem isVE_any {ta : TE} {n : Str} {z : Expr} {q : Pos} (ha : PE X l ta) (hn : n = "isinstance") (hg : glB X.env.scope n = true) (hl : plainX l = true) (hz : chkVE X.env.scope z = true) (mono : ∀ {σ H} {Q Q' : VK}, (∀ v H, Q v H → Q' v H) → ta σ H Q → ta σ H Q') :
    PE X (.Call (.Name n q) [l, z] [] pos) (tIsX p isVED ta) := by
  subst hn
  unfold chkVE at hz
  split at hz
  · rename_i m q2
    simp only [Bool.and_eq_true, decide_eq_true_eq] at hz
    obtain ⟨hm, hg2⟩ := hz
    subst hm
    have hc : PE X (.Name "ValueError" q2) (tC (.ty "ValueError")) := pe_bltn (gl_of hg2) (g.blt _ (by decide)) (show bootBuiltins "ValueError" = some (.type "ValueError") by decide +kernel) rfl (by decide) (by decide)
    refine (pe_callB (call_isi.or call_xi) (gl_of hg) (g.blt _ (by decide)) (by decide +kernel) (pa_cons ha (pa_cons hc pa_nil (star_cons rfl)) (star_cons hl)) (by decide) (by decide) (star_cons hl) (star_any fun e he => by rw [List.mem_singleton.mp he]; rfl)).imp fun σ H Q h => ?_
    refine mono (fun v H1 h => ?_) h
    obtain ⟨x, av, rx, h⟩ := h
    exact isVE_one g rx (h H1 fun _ _ e => e)
  · cases hz
end
variable (g : Good p T G rc kk W X)
include g
omit g in
theorem isXD_b (cs : List Nat) (x : D) : isXD cs x = .stuck ∨ ∃ b, isXD cs x = .ok (.bl b) := by cases x <;> first | exact .inl rfl | exact .inr ⟨_, rfl⟩
omit g in
theorem isVED_b (x : D) : isVED x = .stuck ∨ ∃ b, isVED x = .ok (.bl b) := by cases x <;> first | exact .inl rfl | exact .inr ⟨_, rfl⟩
omit g in
theorem tE_mono {σ : L2.St} {H : Hp} {Q Q' : VK} (w : ∀ v H, Q v H → Q' v H) (h : tE p G rc W a σ H Q) : tE p G rc W a σ H Q' := by
  obtain ⟨env, fl, A, er, h⟩ := h
  exact ⟨env, fl, A, er, h.mono fun d _ h v H' s val cn => w _ _ (h v H' s val cn)⟩
theorem s_isX {cs : List Nat} {tp : Bool} {n : Str} {z : Expr} {q : Pos} (ha : PE X l (tE p G rc W a)) (hn : n = "isinstance") (hg : glB X.env.scope n = true) (hl : plainX l = true) (hz : chkCls T cs tp X.env.scope z = true) :
    PE X (.Call (.Name n q) [l, z] [] pos) (tE p G rc W (.isX cs tp a)) := by
  refine (is_any g.g1 ha hn hg hl hz fun w h => tE_mono w h).imp fun σ H Q h => ?_
  obtain ⟨env, fl, A, er, h⟩ := h
  refine one g.rcl er h fun x v H1 s ok o1 _ h1 => ⟨x, A.a0, o1.rep, fun H2 s2 => ?_⟩
  rcases isXD_b cs x with e | ⟨b, e⟩
  · rw [e] at h1; exact h1.elim
  · rw [e] at h1
    exact ⟨b, e, h1 _ H2 (s.trans s2) (Val.pure (av := nobody) rfl rfl) rfl⟩
theorem s_isVE {n : Str} {z : Expr} {q : Pos} (ha : PE X l (tE p G rc W a)) (hn : n = "isinstance") (hg : glB X.env.scope n = true) (hl : plainX l = true) (hz : chkVE X.env.scope z = true) :
    PE X (.Call (.Name n q) [l, z] [] pos) (tE p G rc W (.isVE a)) := by
  refine (isVE_any g.g1 ha hn hg hl hz fun w h => tE_mono w h).imp fun σ H Q h => ?_
  obtain ⟨env, fl, A, er, h⟩ := h
  refine one g.rcl er h fun x v H1 s ok o1 _ h1 => ⟨x, A.a0, o1.rep, fun H2 s2 => ?_⟩
  rcases isVED_b x with e | ⟨b, e⟩
  · rw [e] at h1; exact h1.elim
  · rw [e] at h1
    exact ⟨b, e, h1 _ H2 (s.trans s2) (Val.pure (av := nobody) rfl rfl) rfl⟩
theorem s_xf {f : Str} (ha : PE X l (tE p G rc W a)) (hf : T.xf.any (fun fs => fs.contains f) = true) (hb : attributeBase l f X.env (eval l X.env) = eval l X.env) : PE X (.Attribute l f pos) (tE p G rc W (.xf f a)) := by
  refine (pe_xfH ha hb).imp fun σ H Q h => ?_
  obtain ⟨env, fl, A, er, h⟩ := h
  refine one g.rcl er h fun x v H1 s ok o1 _ h1 => ?_
  have rx := o1.rep
  cases x with
  | exc c fs =>
    obtain ⟨ad, dd, rfl, ha, hx, hc⟩ := rx
    have h1 : Rs p W σ H1 (match fs.lookup f with | some i => Res.ok (D.int i) | none => .stuck) _ := h1
    cases e : fs.lookup f with
    | none => rw [e] at h1; exact h1.elim
    | some i =>
      rw [e] at h1
      rw [g.kq]
      exact ⟨ad, _, dd, fs, i, rfl, ha, hx, e, g.xok.ra c hc, g.xok.no c hc f hf, h1 _ H1 s (Val.pure (av := nobody) rfl rfl) rfl⟩
  | _ => exact h1.elim

/-! ### the own class -/
omit g in
theorem RepF.lookup {H : Hp} {av : Addr → Prop} (f : Str) : ∀ {fs : List (Str × D)} {gs : List (Str × V)}, RepF p H av fs gs → (∀ d, fs.lookup f = some d → ∃ v, gs.lookup f = some v ∧ Rep p H av d v) ∧ (fs.lookup f = none → gs.lookup f = none)
  | [], gs, h => by
    have h' : gs = [] := h
    subst h'
    exact ⟨fun d e => (by cases e), fun _ => rfl⟩
  | (k, d) :: fs, gs, h => by
    obtain ⟨v, r, rfl, h1, h2⟩ := h
    by_cases e : f = k
    · subst e
      have q1 : List.lookup f ((f, d) :: fs) = some d := by simp [List.lookup]
      have q2 : List.lookup f ((f, v) :: r) = some v := by simp [List.lookup]
      rw [q1, q2]
      exact ⟨fun d' z => (by cases z; exact ⟨v, rfl, h1⟩), fun z => (by cases z)⟩
    · have q : (f == k) = false := by simpa using e
      have q1 : List.lookup f ((k, d) :: fs) = fs.lookup f := by simp [List.lookup, q]
      have q2 : List.lookup f ((k, v) :: r) = r.lookup f := by simp [List.lookup, q]
      rw [q1, q2]
      exact RepF.lookup f h2
theorem s_fld {f : Str} (ha : PE X l (tE p G rc W a)) (ht : T.tb = true) (hf : f = "many" ∨ f = "earnings") (hb : attributeBase l f X.env (eval l X.env) = eval l X.env) : PE X (.Attribute l f pos) (tE p G rc W (.fld f a)) := by
  refine (pe_fld ha hb).imp fun σ H Q h => ?_
  obtain ⟨env, fl, A, er, h⟩ := h
  refine one g.rcl er h fun x v H1 s ok o1 _ h1 => ?_
  obtain ⟨t1, t2, t3⟩ := g.tok ht
  have na : NoAttr X.K p.tc f := by rcases hf with rfl | rfl <;> assumption
  have hc := o1.cn
  cases x with
  | obj fs =>
    obtain ⟨q, dx, gs, rfl, hq, n0, cl, m9⟩ := hc
    have h1 : Rs p W σ H1 (match fs.lookup f with | some d => Res.ok d | none => .stuck) _ := h1
    cases e : fs.lookup f with
    | none => rw [e] at h1; exact h1.elim
    | some d =>
      rw [e] at h1
      obtain ⟨w, hw, rw⟩ := (RepF.lookup f cl).1 d e
      have c2 : Clo p H1 (a.cct rc fl) A d w := ⟨rw, fun z => absurd z m9⟩
      have c3 := c2.weak (n := tupC (a.cct rc fl)) (by rw [tupC_id (E.cct_two a fl)]; exact Nat.le_refl _) (E.cct_two a fl) (tupC_two _) (er.ok.same s)
      refine ⟨q, p.tc, dx, gs, w, rfl, hq, t1, na, hw, h1 w H1 s ?_ ?_⟩
      · exact Clo.val' (tupC_two _) c3
      · show Cn p H1 (tupC (tupC (a.cct rc fl))) A d w
        rw [tupC_id (tupC_two _)]
        exact c3.cn (tupC_two _) (er.ok.same s)
  | _ => exact h1.elim
omit g in
/-- what a callee hands out is what the caller wants -/
theorem Val.back {n : Nat} {A : Avs} {H H1 H' : Hp} {d : D} {v : V} (r2 : 2 ≤ n) (ok : A.Ok H) (s : Same H H1) (val : Val p n ⟨nobody, nobody, fun a => H1 a ≠ none⟩ H1 H' d v) : Val p n A H H' d v := by
  have ok1 := ok.same s
  obtain ⟨tn, ft, cl⟩ := val
  refine ⟨tn, fun a z => ⟨free_of s (ft a z).1, (ft a z).2⟩, ?_⟩
  unfold Cl at cl ⊢
  by_cases r9 : n = 9
  · rw [if_pos r9] at cl ⊢
    exact ⟨cl.1, Rep.pure d cl.1 cl.2⟩
  · rw [if_neg r9, if_neg (by omega), if_neg (by omega)] at cl ⊢
    exact Own.same _ _ d v (fun _ _ e => e) (fun a z => .inl (z.elim (fun z => .inl (ok1.dom a z)) .inr)) (fun a r z _ => z) cl
theorem sp_end {f n : Nat} {ds : List D} {vs : List V} {A : Avs} {H H1 : Hp} {σ : L2.St} {Q : VK} (ok : A.Ok H) (s : Same H H1) (hl : vs.length = n) (rl : RepL p H1 nobody ds vs)
    (h : Rs p W σ H1 (G f ds) fun d => ∀ v H', Same H H' → Val p (rc f) A H H' d v → Cn p H' (tupC (rc f)) A d v → Q v H') : spF p n (G f) (rc f) vs H1 Q (WE W σ) := by
  refine ⟨hl, ds, rl, ?_⟩
  cases e : G f ds with
  | stuck => rw [e] at h; exact h.elim
  | exc c fs => rw [e] at h; exact h
  | ok d =>
    rw [e] at h
    intro v H' s' val
    have val2 := Val.back (g.rcl f).1 ok s val
    exact h v H' (s.trans s') val2 (val2.cn (g.rcl f).2 ok (s.trans s'))
omit g in
theorem meth_tx {x m : Str} {q apos pos : Pos} {args : List Expr} {env : PySem.Env} (hf : methodCallForm (args.length + ([] : List Keyword).length) (backTo pos (starEach args env)) (backToKw pos (keywordEach [] env)) = true) (hl : (apos.endLine == pos.line) = true) :
    eval (.Call (.Attribute (.Name x q) m apos) args [] pos) env = (do { let ov ← eval (.Name x q) env; standAt apos.atName; let (f, first) ← holding [ov] (getMethod ov m (do return (← importBound (.Name x q) env).getD true)); callWith pos f first (backTo pos (starEach args env)) (backToKw pos (keywordEach [] env)) }) := by
  have hp : methodCallPos true (.Name x q) env apos pos = pure pos := by unfold methodCallPos; simp [hl]
  rw [arm_eval_Call]
  unfold methodCall
  rw [hf, hp]
  rfl
theorem s_meth {f : Nat} {m : Str} {es : Es} {x : Str} {q apos : Pos} {xs : List Expr} (hT : T.m f = some m) (ht : T.tb = true) (ha : PE X (.Name x q) (tE p G rc W a)) (hp : ∀ y ∈ xs, plainX y = true) (h : PA X xs (tEs p G rc W es)) (hes : xs = [] → es = .nil) (hle : xs.length ≤ 20) (hli : (apos.endLine == pos.line) = true) :
    PE X (.Call (.Attribute (.Name x q) m apos) xs [] pos) (tE p G rc W (.meth f m a es)) := by
  obtain ⟨adr, fd, ps, e1, e3, F, ar⟩ := g.fnM f m hT
  obtain ⟨t1, _, _⟩ := g.tok ht
  have imp : ∀ σ H Q, tE p G rc W (.meth f m a es) σ H Q → tMethX p.tc m (spF p ps.length (G f) (rc f)) (WE W) (tE p G rc W a) (tEs p G rc W es) σ H Q := fun σ H Q h => by
    obtain ⟨env, fl, A, er, h⟩ := h
    refine one g.rcl er h fun y v H1 s ok o1 _ h1 => ?_
    have rx := o1.rep
    have h1 : Rs p W σ H1 (if noFld m y = true then (es.sem G env).bind fun ds => G f (y :: ds) else .stuck) _ := h1
    by_cases nf : noFld m y = true
    · rw [if_pos nf] at h1
      cases y with
      | obj fs =>
        obtain ⟨ad, dx, gs, rfl, hq, n0, rf⟩ := rx
        have nl : gs.lookup m = none := (RepF.lookup m rf).2 (by simpa [noFld] using nf)
        refine ⟨ad, dx, gs, rfl, hq, nl, env, fl, A, er.same s, (Rs.bind h1).mono fun ds _ h vs H2 s2 el => ?_⟩
        have cl := el.cloL (er.ok.same s) (Es.cls_le g.rcl es fl)
        have ns := Rs.ns h
        refine sp_end g (ds := .obj fs :: ds) ok (s.trans s2) (by rw [← ar _ ns]; simp [cl.1.length]) (show RepL p H2 nobody (.obj fs :: ds) (.ref ad :: vs) from ⟨_, _, rfl, (o1.rep.same s2).any, RepL.keep (Keep.same fun _ _ e => e) (fun _ z => z.elim) ds cl.1⟩) (Rs.same s2 h)
      | _ => cases (show false = true from nf)
    · rw [if_neg nf] at h1; exact h1.elim
  cases xs with
  | nil =>
    have := hes rfl
    subst this
    refine (pe_methX0 (E := WE W) ha t1 e1 F g.room e3 (fun σ => passAt g.tk σ) (fun σ H K z => ?_) (meth_tx rfl hli)).imp imp
    obtain ⟨env, fl, A, er, z⟩ := z
    exact Rs.ok z [] H (fun _ _ e => e) EL.nil
  | cons y ys =>
    refine (pe_methX (E := WE W) ha t1 e1 F g.room e3 (fun σ => passAt g.tk σ) h (star_cons (hp y List.mem_cons_self)) (star_any fun z hz => hp z (List.mem_cons_of_mem _ hz)) (meth_tx ?_ hli)).imp imp
    unfold methodCallForm
    simp only [Bool.and_eq_true, decide_eq_true_eq]
    refine ⟨⟨?_, rfl⟩, (by show (y :: ys).length + 0 + 0 < 30; omega)⟩
    have := star_any (env := X.env) (pos := pos) hp
    rw [List.any_eq_false] at this
    exact List.all_eq_true.mpr fun z hz => by have := this z hz; simpa using this
theorem s_mk {f : Nat} {n : Str} {q : Pos} {es : Es} {x : Expr} {xs : List Expr} (hT : T.i f = some n) (hg : glB X.env.scope n = true) (hn : nmB n = true) (hp : ∀ y ∈ x :: xs, plainX y = true) (h : PA X (x :: xs) (tEs p G rc W es)) :
    PE X (.Call (.Name n q) (x :: xs) [] pos) (tE p G rc W (.mk f es)) := by
  obtain ⟨k, adr, fd, ps, hk, e1, M, e3, F, r2, ar⟩ := g.fnI f n hT
  refine (pe_makeX (E := WE W) M F (g.room.mono hk) (gl_of hg) e1 e3 (fun σ => passAt g.tk σ) h (nm_of hn).1 (star_cons (hp x List.mem_cons_self)) (star_any fun y hy => hp y (List.mem_cons_of_mem _ hy))).imp fun σ H Q h => ?_
  obtain ⟨env, fl, A, er, h⟩ := h
  refine ⟨env, fl, A, er, (Rs.bind h).mono fun ds _ h vs H1 s el x dx nx ndx nd => ?_⟩
  have cl := el.cloL er.ok (Es.cls_le g.rcl es fl)
  have ns := Rs.ns h
  have s1 : Same H1 (upd (upd H1 dx (.own x)) x (.ins p.tc dx [])) := fun b o e => by rw [upd_ne (ne_of_none e nx), upd_ne (ne_of_none e ndx)]; exact e
  refine ⟨by rw [← ar _ ns]; simp [cl.1.length], x, dx, vs, ds, rfl, upd_same, RepL.keep (av := nobody) (Keep.same s1) (fun b z => .inr (by rw [z]; exact nx)) ds (RepL.keep (Keep.same fun _ _ e => e) (fun _ z => z.elim) ds cl.1), ?_⟩
  have h := Rs.same s h
  cases e : G f ds with
  | stuck => exact absurd e ns
  | exc c fs =>
    rw [e] at h
    intro cls dd H' sm xr
    exact h cls dd H' (fun b o z => sm b o (s1 b o z) (ne_of_none z nx)) xr
  | ok d =>
    rw [e] at h
    intro H' sm rd
    have s2 : Same H1 H' := fun b o z => sm b o (s1 b o z) (ne_of_none z nx)
    have val : Val p (rc f) A H H' d (.ref x) := by
      rw [r2]
      refine ⟨fun _ => none, fun a z => absurd rfl z, ?_⟩
      refine Rep.weak (fun b z => .inl ?_) (show Rep p H' _ d (.ref x) from rd)
      rcases z with z | z
      · have := same_nn s (er.ok.dom b z)
        exact ⟨same_nn s1 this, fun e => this (by rw [e]; exact nx)⟩
      · exact absurd rfl z
    exact ⟨rfl, h (.ref x) H' (s.trans s2) val (val.cn (g.rcl f).2 er.ok (s.trans s2))⟩
omit g in
theorem mkFs_zip {av : Addr → Prop} : ∀ {fs : List Str} {ds : List D} {g : List (Str × Int)} {vs : List V}, mkFs fs ds = some g → RepL p H av ds vs → vs.length = fs.length ∧ ∀ f i, g.lookup f = some i → (fs.zip vs).lookup f = some (V.int i)
  | [], [], g, vs, e, h => by
    cases e
    have : vs = [] := h
    subst this
    exact ⟨rfl, fun f i z => (by cases z)⟩
  | [], _ :: _, _, _, e, _ => by cases e
  | _ :: _, [], _, _, e, _ => by simp [mkFs] at e
  | k :: fs, d :: ds, g, vs, e, h => by
    cases d with
    | int i =>
      have e' : (mkFs fs ds).map ((k, i) :: ·) = some g := e
      cases q : mkFs fs ds with
      | none => rw [q] at e'; cases e'
      | some g' =>
        rw [q] at e'
        cases e'
        obtain ⟨v, r, rfl, h1, h2⟩ := h
        obtain rfl : v = .int i := h1
        obtain ⟨l, z⟩ := mkFs_zip q h2
        refine ⟨by simp [l], fun f i' hl => ?_⟩
        by_cases ef : f = k
        · subst ef
          have : i = i' := by simpa [List.lookup] using hl
          subst this
          simp [List.lookup]
        · have b : (f == k) = false := by simpa using ef
          have hl' : g'.lookup f = some i' := by simpa [List.lookup, b] using hl
          have := z f i' hl'
          simp only [List.zip_cons_cons, List.lookup, b]
          exact this
    | _ => simp [mkFs] at e
theorem s_mkx (hex : X.ex = []) {c : Nat} {n : Str} {fs : List Str} {es : Es} {y : Expr} {ys : List Expr} {p1 : Pos} (h1 : T.x[c]? = some n) (h2 : c ∈ T.rs) (h3 : T.xf[c]? = some fs) (hne : fs ≠ []) (hle : fs.length ≤ 10) (h4 : glB X.env.scope n = true) (h5 : nmB n = true)
    (hp : ∀ z ∈ y :: ys, plainX z = true) (he : PA X (y :: ys) (tEs p G rc W es)) : PE X (.Call (.Name n p1) (y :: ys) [] pos) (tE p G rc W (.mkx c fs es)) := by
  have hc := g.xok.rq c h2
  obtain ⟨k, fI, fd, hk, i1, i2, hb, F⟩ := g.xin c h2 fs h3 hne
  have O := g.xok.oex c hc fs h3 hne
  rw [← g.kq] at O
  refine (pe_mkE hex (pmk_oex (CX := L2.CX X.prog X.w) (dvs := []) O i1 i2 F (g.room.mono hk) hb .nil (fun pins σ H s e s' I c => (noCXe c).elim) (gl_of h4) (g.xmg c n h1) he (nm_of h5).1 (star_cons (hp y List.mem_cons_self)) (star_any fun z hz => hp z (List.mem_cons_of_mem _ hz)))).imp fun σ H Q q => ?_
  obtain ⟨env, fl, A, er, q⟩ := q
  refine ⟨env, fl, A, er, (Rs.bind q).mono fun ds _ q vs H1 s1 el => ?_⟩
  have cl := el.cloL er.ok (Es.cls_le g.rcl es fl)
  cases em : mkFs fs ds with
  | none => rw [em] at q; exact q.elim
  | some gf =>
    rw [em] at q
    obtain ⟨lv, hz⟩ := mkFs_zip em cl.1
    refine ⟨by rw [lv]; omega, fun a na => ?_⟩
    rw [List.append_nil]
    refine ⟨a, vs, rfl, lv, upd_same, fun d gs H2 nd e1 e2 keep hl => ⟨rfl, d, gs, e1, e2, ?_, fun a2 na2 => ?_⟩⟩
    · by_cases z : d = a
      · rw [z, upd_same] at nd; cases nd
      · rw [upd_ne z] at nd; exact nd
    · have nda : d ≠ a := fun z => by rw [z, upd_same] at nd; cases nd
      have nd1 : H1 d = none := by rw [upd_ne nda] at nd; exact nd
      have hd : upd (del H2 a) d (.xd gs) d = some (.xd gs) := upd_same
      have a2d : a2 ≠ d := fun z => by rw [z, hd] at na2; cases na2
      have s2 : Same H1 (upd (upd (del H2 a) d (.xd gs)) a2 (ExH (.ref (p.cad c)) (some d) a2)) := fun b w e => by
        have ba : b ≠ a := ne_of_none e na
        have bd : b ≠ d := ne_of_none e nd1
        have e3 : upd (del H2 a) d (.xd gs) b = some w := by
          rw [upd_ne bd, del_ne ba]
          exact keep b w (by rw [upd_ne ba]; exact e) ba
        have b2 : b ≠ a2 := ne_of_none e3 na2
        rw [upd_ne b2]; exact e3
      have rep : Rep p (upd (upd (del H2 a) d (.xd gs)) a2 (ExH (.ref (p.cad c)) (some d) a2)) A.a0 (.exc c gf) (.ref a2) :=
        ⟨a2, some d, rfl, upd_same, .inr ⟨d, gs, rfl, by rw [upd_ne (Ne.symm a2d)]; exact hd, fun f i z => hl _ _ (hz f i z)⟩, hc⟩
      exact q (.ref a2) _ (s1.trans s2) (Val.pure (av := A.a0) rfl rep) rep
omit g in
theorem idx_facts {ns : List Int} {i : Int} (h : ns.contains i = true) : (ns.map V.int)[ns.idxOf i]? = some (V.int i) ∧ ∀ (m : Nat) (z : V), m < ns.idxOf i → (ns.map V.int)[m]? = some z → eqV z (.int i) = false := by
  have hm : i ∈ ns := by simpa using h
  have hl : ns.idxOf i < ns.length := List.idxOf_lt_length_of_mem hm
  refine ⟨by rw [List.getElem?_map, List.getElem?_eq_getElem hl, List.getElem_idxOf hl]; rfl, fun m z hlt e => ?_⟩
  have hml : m < ns.length := by omega
  rw [List.getElem?_map, List.getElem?_eq_getElem hml] at e
  cases e
  have := List.not_of_lt_findIdx (p := (· == i)) (xs := ns) (i := m) hlt
  simpa [eqV] using this
theorem s_idx {x : Str} {q apos : Pos} (ha : PE X (.Name x q) (tE p G rc W a)) (hb : PE X r (tE p G rc W b)) (hr : plainX r = true) (hli : (apos.endLine == pos.line) = true) :
    PE X (.Call (.Attribute (.Name x q) "index" apos) [r] [] pos) (tE p G rc W (.idx a b)) := by
  refine (pe_bm PySem.F.plainAttrs_list PySem.F.slot_list_index PySem.F.type_list_index mt_index ha (pa_cons hb pa_nil (star_cons hr)) rfl (by rw [star_cons hr]; rfl) hli (star_cons hr) rfl).imp fun σ H Q h => ?_
  obtain ⟨env, fl, A, er, h⟩ := h
  refine one g.rcl er h fun y v H1 s ok o1 _ h1 => ?_
  have h1 : Rs p W σ H1 (if isLst y = true then (b.sem G env).bind fun z => idxD y z else .stuck) _ := h1
  cases y with
  | lst xs =>
    obtain ⟨c, vs, rfl, hc, _, rl⟩ := o1.rep
    have h1 : Rs p W σ H1 ((b.sem G env).bind fun z => idxD (.lst xs) z) _ := h1
    refine ⟨.inl ⟨rfl, vs, .inl (.inl hc)⟩, one g.rcl (er.same s) h1 fun z u H2 s2 _ o2 _ h2 => ?_⟩
    cases z with
    | int i =>
      obtain rfl : u = .int i := o2.rep
      have h2 : Rs p W σ H2 (match intsOf xs with | some ns => if ns.contains i = true then Res.ok (D.int (ns.idxOf i)) else .stuck | none => .stuck) _ := h2
      cases e : intsOf xs with
      | none => rw [e] at h2; exact h2.elim
      | some ns =>
        rw [e] at h2
        obtain ⟨hc2, h2⟩ := ite_inv h2
        cases RepL.ints e rl
        obtain ⟨e1, e2⟩ := idx_facts hc2
        exact ⟨c, _, .int i, ns.idxOf i, .int i, rfl, rfl, .inl (.inl (s2 _ _ hc)), rfl, (by simp [flatV]), e1, (by simp [eqV]), e2, h2 _ H2 (s.trans s2) (Val.pure (av := nobody) rfl rfl) rfl⟩
    | _ => exact h2.elim
  | _ => exact h1.elim
end
end Tr

/-! list(reversed(l)) -/
namespace Tr
open PySem PySem.Spec PyProof.Rows L2 RT
section
variable {prog : Program} {w : World} {A : Around} {E : Value → Shared → Prop} {s : Shared}
theorem init_rev {it l S : Addr} {items : Array Value} {R : Result → Shared → Prop} (hh : A.handled = none) (hit : s.heap.IsRevIter it l ((items.size : Int) - 1)) (hl : s.heap.IsList l items) (hne : l ≠ it) (hn : items.size ≤ sizeLine) (hSi : S ≠ it) (hSl : S ≠ l)
    (hS : s.heap.get? S = some { cls := .type "list", data := .seq #[] })
    (hR : ∀ (h' : Heap) (tk : Nat) (acc : Array Value) (c : Nat), (∀ b o, b ≠ it → b ≠ S → s.heap.get? b = some o → h'.get? b = some o) → h'.get? S = some { cls := .type "list", dict := none, data := .seq acc c, slots := #[] } → ItemsOf (fun i v => items[items.size - 1 - i]? = some v) acc items.size → R (.ok (.ret .none)) { s with heap := h', toks := tk }) :
    wpAny (model prog w) A.in1 (Builtin.«list.__init__» ⟨[.ref S, .ref it], []⟩)
      (fun fin s' => match fin with | .done f => R (.ok f) s' | .again c' => c'.quiet = true ∧ codeAny (model prog w) A c' R s') (fun e s' => R (.error e) s') s := by
  have W := (Walks.listRev (prog := prog) (w := w) (A := A.in1) hh it l hne items).toS
  have hSf : S ∉ [it, l] := by simp only [List.mem_cons, List.not_mem_nil, or_false, not_or]; exact ⟨hSi, hSl⟩
  show wpAny _ A.in1 (do let old ← Builtin.List.listItems (.ref S); Builtin.List.listUpdate (.ref S) (fun _ => #[]); letGo old.toList.reverse; Builtin.List.listExtendWith (.ref S) (.ref it) .none) _ _ s
  refine wpAny_bind ?_
  unfold Builtin.List.listItems
  refine wpAny_bind (wpAny_seqItems hS rfl (wpAny_pure ?_))
  show wpAny _ A.in1 (updateSeq S (fun _ => #[]) >>= fun _ => letGo (#[] : Array Value).toList.reverse >>= fun _ => Builtin.List.listExtendWith (.ref S) (.ref it) .none) _ _ s
  refine wpAny_bind (wpAny_updateSeq hS rfl ?_)
  have hS₂ := Heap.get?_update_self (Obj.mapSeq (fun _ => (#[] : Array Value))) hS rfl
  have oth : ∀ b o, b ≠ S → s.heap.get? b = some o → (s.heap.update S (Obj.mapSeq (fun _ => (#[] : Array Value)))).get? b = some o :=
    fun b o hb e => (Heap.get?_update_other _ _ (Ne.symm hb)).trans e
  refine wpAny_bind (wpAny_letGo ?_)
  have hit1 : (s.heap.update S (Obj.mapSeq (fun _ => (#[] : Array Value)))).IsRevIter it l ((items.size : Int) - 1) := hit.at fun o e => oth _ _ (Ne.symm hSi) e
  have hl1 : (s.heap.update S (Obj.mapSeq (fun _ => (#[] : Array Value)))).IsList l items := hl.at fun o e => oth _ _ (Ne.symm hSl) e
  have hT : ({ s with heap := s.heap.update S (Obj.mapSeq (fun _ => (#[] : Array Value))) } : Shared).TypeIs (.ref it) "list_reverseiterator" := Heap.IsRevIter.typeIs (s := { s with heap := s.heap.update S (Obj.mapSeq (fun _ => (#[] : Array Value))) }) hit1
  have h1 : Builtin.List.listSameRef (.ref S) (.ref it) = false := by simp [Builtin.List.listSameRef, hSi]
  unfold Builtin.List.listExtendWith
  refine wpAny_bind (wpAny_typeOf hT ?_)
  rw [if_neg (by rw [h1]; decide)]
  refine wpAny_bind (wpAny_pyIter_revIter (s := { s with heap := s.heap.update S (Obj.mapSeq (fun _ => (#[] : Array Value))) }) hit1 ?_)
  refine wpAny_bind (wpAny_holding ?_)
  unfold Builtin.List.listLengthHint
  refine wpAny_bind (wpAny_specialOf hT nolen_lri ?_)
  show wpAny _ A.in1 (specialOf (Value.ref it) (Str.ofString "__length_hint__") >>= _) _ _ _
  refine wpAny_bind (wpAny_specialOf hT hint_lri ?_)
  generalize hid : ("list_reverseiterator.__length_hint__" : String) = id0
  wp_delta
  rw [show splitId id0 = some ("list_reverseiterator", "__length_hint__") from by subst hid; decide +kernel]
  subst hid
  refine wpAny_bind (wpAny_isInstance (b := true) hT (by rw [isSubtype_type]; kernel_rfl) ?_)
  refine wpAny_pure ?_
  rw [if_neg (by decide)]
  have e0 : ((items.size : Nat) : Int) - 1 - ((0 : Nat) : Int) = (items.size : Int) - 1 := by omega
  refine wpAny_pure ⟨plainId_quiet F.plain_extend_loop _, codeAny_extend_loopS W hn _ hSf _ items.size 0 _ _ _ rfl (Nat.zero_le _) ⟨Nat.zero_le _, by rw [e0]; exact hit1, hl1⟩ hS₂ (ItemsOf.nil _) fun s' acc' c' hm hS' hacc => ?_⟩
  have := hR s'.heap s'.toks acc' c' (fun b o hb hbS e => hm.heap b o (fun hmem => ?_) (oth b o hbS e)) hS' hacc
  · rw [Moved.eq_with hm]; exact this
  · rcases List.mem_cons.mp hmem with e' | hmem
    · exact hbS e'
    · exact hb (List.mem_singleton.mp hmem)
theorem call_list_rev {it l : Addr} {items : Array Value} {Q : Value → Shared → Prop} (hh : A.handled = none) (hit : s.heap.IsRevIter it l ((items.size : Int) - 1)) (hl : s.heap.IsList l items) (hne : l ≠ it) (hn : items.size ≤ sizeLine)
    (hQ : ∀ (h' : Heap) (tk : Nat) (acc : Array Value) (c : Nat), (∀ b o, b ≠ it → s.heap.get? b = some o → h'.get? b = some o) → h'.get? s.heap.objs.size = some { cls := .type "list", dict := none, data := .seq acc c, slots := #[] } → ItemsOf (fun i v => items[items.size - 1 - i]? = some v) acc items.size →
      Q (.ref s.heap.objs.size) { s with heap := h', toks := tk }) :
    wpAny (model prog w) A (call (.type "list") [.ref it]) Q E s := by
  obtain ⟨oi, hoi, _⟩ := id hit
  obtain ⟨ol, hol, _⟩ := id hl
  refine callType_codes (Q₁ := fun obj s₁ => obj = .ref s.heap.objs.size ∧ s₁ = { s with heap := s.heap.push { cls := .type "list", data := .seq #[] } }) F.called_list (F.typeCall_list_1 _) F.entry_list_init
    (code_list_new _ ⟨rfl, rfl⟩) fun obj s₁ h₁ => ?_
  obtain ⟨rfl, rfl⟩ := h₁
  have hS : (s.heap.push { cls := .type "list", data := .seq #[] }).get? s.heap.objs.size = some { cls := .type "list", data := .seq #[] } := Heap.get?_push_size _ rfl
  refine ⟨⟨_, hS, rfl⟩, F.args_list_init_2 _ _, init_rev (A := A.in1) (s := { s with heap := s.heap.push { cls := .type "list", data := .seq #[] } }) hh (hit.at fun o e => Heap.get?_push_of_some _ e) (hl.push _) hne hn (Nat.ne_of_gt (Heap.lt_size hoi)) (Nat.ne_of_gt (Heap.lt_size hol)) hS fun h' tk acc c hk hS' hacc => ?_⟩
  exact ⟨rfl, hQ h' tk acc c (fun b o hb e => hk b o hb (Nat.ne_of_lt (Heap.lt_size e)) (Heap.get?_push_of_some _ e)) hS' hacc⟩
end
/-- list(reversed(x)), x a list: a new list -/
def tLstRev (K : PySem.W.Frag) (te : TE) : TE := fun σ H Q => te σ H fun v H1 => ∃ (a : Addr) (xs : List V), v = .ref a ∧ SqL K H1 a xs ∧ ∀ q, H1 q = none → Q (.ref q) (upd H1 q (.lst xs.reverse))
section
variable {X : Cx}
theorem pe_lstRev {e : Expr} {te : TE} {p p2 pos pos2 : Pos} (hc : X.calm = true) (hg : Gl X "list") (hm : X.mg "list" = none) (hg2 : Gl X "reversed") (hm2 : X.mg "reversed" = none) (he : PE X e te)
    (hs : starEach [e] X.env = (false, eval e X.env) :: starEach [] X.env := by rfl)
    (hs2 : starEach [.Call (.Name "reversed" p2) [e] [] pos2] X.env = (false, eval (.Call (.Name "reversed" p2) [e] [] pos2) X.env) :: starEach [] X.env := by rfl) :
    PE X (.Call (.Name "list" p) [.Call (.Name "reversed" p2) [e] [] pos2] [] pos) (tLstRev X.K te) := by
  refine ⟨fun pins s σ H Q I h => ?_⟩
  refine Call_ (ld_blt I hg hm PyProof.Rows.boot_list (PyProof.Rows.callWith_type1 (args_cons (Call_ (ld_blt I hg2 hm2 PyProof.Rows.boot_reversed (PyProof.Rows.callWith_type1 (args_cons (thn (he.run pins s σ H _ I h) fun u s1 ⟨v, H1, I1, r1, q1⟩ => args_nil ?_) hs) hs rfl))) hs2) hs2 rfl))
  obtain ⟨a, xs, ev, hq, q⟩ := q1
  subst ev
  obtain rfl : u = Value.ref a := r1
  obtain ⟨its, rv, p', hz⟩ := I1.list hq
  refine call_reversed_list p'.isList (args_nil ?_)
  have k0 : ∀ b o, s1.heap.get? b = some o → (s1.heap.push (revObj a ((its.toArray.size : Int) - 1))).get? b = some o := fun b o e => Heap.get?_push_of_some _ e
  have I2 : Inv X pins σ H1 { s1 with heap := s1.heap.push (revObj a ((its.toArray.size : Int) - 1)) } := I1.kept (t' := s1.toks) k0
  have hl := p'.isList
  obtain ⟨ol, hol, _⟩ := id hl
  have hne : a ≠ s1.heap.objs.size := Nat.ne_of_lt (Heap.lt_size hol)
  have hn : its.toArray.size ≤ sizeLine := by rw [List.size_toArray, ← rv.length]; exact hz
  refine call_list_rev (s := { s1 with heap := s1.heap.push (revObj a ((its.toArray.size : Int) - 1)) }) (I1.ok.hd hc) ⟨_, Heap.get?_push_size _ rfl, rfl, rfl⟩ (hl.push _) hne hn fun h' tk acc c hk hS hi => ?_
  generalize hh : s1.heap.push (revObj a ((its.toArray.size : Int) - 1)) = h0 at *
  have hsz : h0.objs.size = s1.heap.objs.size + 1 := by rw [← hh, Heap.size_push]
  have hok : ObjOk X.prog X.w (upd H1 h0.objs.size (.lst xs.reverse)) (h0.push { cls := .type "list", dict := none, data := .seq acc c, slots := #[] }) h0.objs.size (.lst xs.reverse) :=
    ⟨by rw [List.length_reverse]; exact hz, acc.toList, c, vals_rev rv hi, by rw [Array.toArray_toList]; exact Heap.get?_push_size _ rfl⟩
  have I3 := I2.laid (t' := s1.toks) (a := h0.objs.size) (o := .lst xs.reverse) (h' := h0.push { cls := .type "list", dict := none, data := .seq acc c, slots := #[] }) (fun b o e => Heap.get?_push_of_some _ e) (Nat.le_refl _) hok
  have fo : upd H1 h0.objs.size (.lst xs.reverse) s1.heap.objs.size = none := by
    rw [upd_ne (by rw [hsz]; exact Nat.ne_of_lt (Nat.lt_succ_self _))]; exact I1.hok.fresh (Nat.le_refl _)
  obtain ⟨f0, f1, f2, f3, f4, f5⟩ := I1.fpOk (H' := upd H1 h0.objs.size (.lst xs.reverse)) (b := s1.heap.objs.size) (Nat.le_refl _) fo
  have I4 : Inv X pins σ (upd H1 h0.objs.size (.lst xs.reverse)) { s1 with heap := h', toks := tk } := I3.turned (t' := tk) (fun b o hb e => by
    rcases Heap.get?_push_cases e with ⟨rfl, rfl⟩ | e
    · exact hS
    · exact hk b o hb e) f0 f1 f3 f4 f5
  exact ⟨.ref h0.objs.size, _, I4, rfl, q _ (I2.hok.fresh (Nat.le_refl _))⟩
end
theorem CloL.reverse {p : Pm} {H : Hp} {A : Avs} {m : Nat} {ds : List D} {vs : List V} (h : CloL p H m A ds vs) : CloL p H m A ds.reverse vs.reverse := CloL.of (by simp [h.1.length]) fun j d v e1 e2 => by
  have hj : j < ds.length := by
    have := (List.getElem?_eq_some_iff.mp e1).1
    simpa using this
  rw [List.getElem?_reverse hj] at e1
  rw [List.getElem?_reverse (by rw [h.1.length]; exact hj), h.1.length] at e2
  obtain ⟨w, ew, c⟩ := h.get e1
  rw [ew] at e2; cases e2; exact c
section
variable {X : Cx} {p : Pm} {T : Nm} {G : Gam} {rc : Nat → Nat} {kk : Nat} {W : WX} {a : E} {l : Expr} {pos : Pos}
variable (g : Good p T G rc kk W X)
include g
theorem s_revL (ha : PE X l (tE p G rc W a)) {x y : Str} {q q2 pos2 : Pos} (hx : x = "list") (hg : glB X.env.scope x = true) (hy : y = "reversed") (hg2 : glB X.env.scope y = true) (hl : plainX l = true) : PE X (.Call (.Name x q) [.Call (.Name y q2) [l] [] pos2] [] pos) (tE p G rc W (.revL a)) := by
  subst hx; subst hy
  refine (pe_lstRev g.calm (gl_of hg) (g.blt _ (by decide)) (gl_of hg2) (g.blt _ (by decide)) ha (star_cons hl) (star_cons rfl)).imp fun σ H Q h => ?_
  obtain ⟨env, fl, A, er, h⟩ := h
  refine one g.rcl er h fun x v H1 s ok o1 _ h1 => ?_
  have hm := E.cct_two (rc := rc) a fl
  have hc := o1.cn
  cases x with
  | lst xs =>
    obtain ⟨q, vs, rfl, hq, _, cl⟩ := hc
    exact ⟨q, vs, rfl, SqL.of hq, fun n hn => fin_lst g (e := .revL a) s ok (tupC_le9 _) rfl rfl hn (EL.clo (tupC_two _) (by rw [tupC_id hm]; exact cl.reverse)) h1⟩
  | _ => exact h1.elim
end
end Tr

/-! Every expression. -/
namespace Tr
open PySem PySem.Spec PyProof.Rows L2
mutual
theorem py_dp {p : Pm} {K : PySem.W.Frag} {H : Hp} {av : Addr → Prop} : ∀ (d : D) {v : V} {x : PyData}, d.py = some x → Rep p H av d v → Dp K H v x
  | .non, v, x, e, h => by cases e; cases (show v = .non from h); exact .non
  | .bl b, v, x, e, h => by cases e; cases (show v = .bl b from h); exact .bl b
  | .int i, v, x, e, h => by cases e; cases (show v = .int i from h); exact .int i
  | .str s, v, x, e, h => by cases e; cases (show v = .str s from h); exact .str s
  | .tup ds, v, x, e, h => by
    obtain ⟨a, vs, rfl, ha, hr⟩ := h
    have e' : (D.pyL ds).map PyData.tuple = some x := e
    cases q : D.pyL ds with
    | none => rw [q] at e'; cases e'
    | some xs => rw [q] at e'; cases e'; exact .tup (SqT.of ha) (py_dps ds q hr)
  | .lst ds, v, x, e, h => by
    obtain ⟨a, vs, rfl, ha, _, hr⟩ := h
    have e' : (D.pyL ds).map PyData.list = some x := e
    cases q : D.pyL ds with
    | none => rw [q] at e'; cases e'
    | some xs => rw [q] at e'; cases e'; exact .lst (SqL.of ha) (py_dps ds q hr)
  | .dic _, _, _, e, _ => by cases e
  | .scr _, _, _, e, _ => by cases e
  | .obj _, _, _, e, _ => by cases e
  | .exc _ _, _, _, e, _ => by cases e
theorem py_dps {p : Pm} {K : PySem.W.Frag} {H : Hp} {av : Addr → Prop} : ∀ (ds : List D) {vs : List V} {xs : List PyData}, D.pyL ds = some xs → RepL p H av ds vs → DpAll K H vs xs
  | [], vs, xs, e, h => by cases e; cases (show vs = [] from h); exact .nil
  | d :: ds, vs, xs, e, h => by
    obtain ⟨v, r, rfl, h1, h2⟩ := h
    have e' : (match D.py d, D.pyL ds with | some x, some xs => some (x :: xs) | _, _ => none) = some xs := e
    cases q1 : D.py d with
    | none => rw [q1] at e'; cases e'
    | some x =>
      cases q2 : D.pyL ds with
      | none => rw [q1, q2] at e'; cases e'
      | some ys => rw [q1, q2] at e'; cases e'; exact .cons (py_dp d q1 h1) (py_dps ds q2 h2)
end
section
variable {X : Cx} {p : Pm} {T : Nm} {G : Gam} {rc : Nat → Nat} {kk : Nat} {W : WX} {a b c e : E} {l r t : Expr} {pos : Pos}
theorem flat_rep {H : Hp} {av : Addr → Prop} {d : D} {v : V} (h : flatD d = true) (hr : Rep p H av d v) : flatV v = true ∧ ∀ (d' : D) (v' : V), flatD d' = true → Rep p H av d' v' → eqV v v' = eqF d d' := by
  cases d with
  | int i =>
    cases (show v = .int i from hr)
    refine ⟨rfl, fun d' v' h' hr' => ?_⟩
    cases d' with
    | int j => cases (show v' = .int j from hr'); rfl
    | str j => cases (show v' = .str j from hr'); rfl
    | _ => cases h'
  | str i =>
    cases (show v = .str i from hr)
    refine ⟨rfl, fun d' v' h' hr' => ?_⟩
    cases d' with
    | int j => cases (show v' = .int j from hr'); rfl
    | str j => cases (show v' = .str j from hr'); rfl
    | _ => cases h'
  | _ => cases h
theorem flat_in {H : Hp} {av : Addr → Prop} {x : D} {u : V} (hx : flatD x = true) (rx : Rep p H av x u) : ∀ {ds : List D} {vs : List V}, ds.all flatD = true → RepL p H av ds vs → vs.all flatV = true ∧ inV u vs = inFlat x ds
  | [], vs, _, h => by cases (show vs = [] from h); exact ⟨rfl, rfl⟩
  | d :: ds, vs, h, hr => by
    obtain ⟨v, r, rfl, h1, h2⟩ := hr
    rw [List.all_cons, Bool.and_eq_true] at h
    obtain ⟨f1, f2⟩ := flat_rep h.1 h1
    obtain ⟨g1, g2⟩ := flat_in hx rx h.2 h2
    refine ⟨by rw [List.all_cons, f1, g1]; rfl, ?_⟩
    show (eqV v u || inV u r) = (eqF d x || inFlat x ds)
    rw [f2 x u hx rx, g2]
variable (g : Good p T G rc kk W X)
include g
theorem s_eqv (ha : PE X l (tE p G rc W a)) (hb : PE X r (tE p G rc W b)) (hl : plainX r = true) : PE X (.Compare l [.Eq] [r] pos) (tE p G rc W (.eqv a b)) ∧ PT X (.Compare l [.Eq] [r] pos) (tT p G W (.eqv a b)) := by
  refine cmp_both g.rcl (op_eqD g.room.units) ha hb hl fun σ H Q h => ?_
  obtain ⟨env, fl, A, er, h⟩ := h
  refine two g.rcl er h fun x y v u H2 s ok o1 o2 h2 => ?_
  have h2 : Rs p W σ H2 ((match x.py, y.py with | some d, some e => if SeqAt.shaped d = true ∧ SeqAt.shaped e = true then Res.ok (PyData.eqv d e) else .stuck | _, _ => .stuck).bind fun b => .ok (D.bl b)) _ := h2
  cases ex : x.py with
  | none => rw [ex] at h2; exact h2.elim
  | some d =>
    cases ey : y.py with
    | none => rw [ex, ey] at h2; exact h2.elim
    | some e =>
      rw [ex, ey] at h2
      obtain ⟨⟨s1, s2⟩, h2⟩ := ite_inv (Rs.bind h2)
      exact ⟨d, e, py_dp x ex o1.rep, py_dp y ey o2.rep, s1, s2, h2 _ H2 s (Val.pure (av := nobody) rfl rfl) rfl⟩
theorem s_nev (ha : PE X l (tE p G rc W a)) (hb : PE X r (tE p G rc W b)) (hl : plainX r = true) : PE X (.Compare l [.NotEq] [r] pos) (tE p G rc W (.nev a b)) ∧ PT X (.Compare l [.NotEq] [r] pos) (tT p G W (.nev a b)) := by
  refine cmp_both g.rcl (op_neD g.room.units) ha hb hl fun σ H Q h => ?_
  obtain ⟨env, fl, A, er, h⟩ := h
  refine two g.rcl er h fun x y v u H2 s ok o1 o2 h2 => ?_
  have h2 : Rs p W σ H2 ((match x.py, y.py with | some d, some e => if SeqAt.shaped d = true ∧ SeqAt.shaped e = true then Res.ok (PyData.eqv d e) else .stuck | _, _ => .stuck).bind fun b => .ok (D.bl (!b))) _ := h2
  cases ex : x.py with
  | none => rw [ex] at h2; exact h2.elim
  | some d =>
    cases ey : y.py with
    | none => rw [ex, ey] at h2; exact h2.elim
    | some e =>
      rw [ex, ey] at h2
      obtain ⟨⟨s1, s2⟩, h2⟩ := ite_inv (Rs.bind h2)
      exact ⟨d, e, py_dp x ex o1.rep, py_dp y ey o2.rep, s1, s2, h2 _ H2 s (Val.pure (av := nobody) rfl rfl) rfl⟩
/-- in, by its answer f -/
theorem in_core {σ : L2.St} {H : Hp} {x y : D} {v u : V} {A : Avs} {m : Nat} {k : Bool → Prop} (rx : Rep p H A.a0 x v) (cy : Cn p H m A y u) (hm : m ≤ 2 ∨ m = 9) (ok : A.Ok H) (h : Rs p W σ H (inD x y) k) (neg : Bool) (Q : VK) (fin : ∀ b, k b → Q (.bl (if neg then !b else b)) H) :
    rIn X.K neg v u H Q ∨ (if neg then rNotInD X.K v u H Q else rInD X.K v u H Q) := by
  cases y with
  | lst ys =>
    have cn0 := Cn.weak (n := 0) (Nat.zero_le _) hm (.inl (by decide)) ok cy
    obtain ⟨q, vs, rfl, hq, n0, cl⟩ := cn0
    have h : Rs p W σ H (if flatD x = true ∧ ys.all flatD = true then Res.ok (inFlat x ys) else inDeep x ys) k := h
    by_cases hf : flatD x = true ∧ ys.all flatD = true
    · rw [if_pos hf] at h
      obtain ⟨f1, f2⟩ := flat_in hf.1 rx hf.2 cl.1
      refine .inl ⟨q, vs, rfl, .inl (SqL.of hq), (flat_rep hf.1 rx).1, f1, ?_⟩
      rw [f2]
      cases neg <;> exact fin _ h
    · rw [if_neg hf] at h
      have h : Rs p W σ H (match x.py, D.pyL ys with | some d, some ds => if SeqAt.shaped d = true ∧ SeqAt.shaped (.list ds) = true then Res.ok (ds.any fun z => PyData.eqv z d) else .stuck | _, _ => .stuck) k := h
      cases ex : x.py with
      | none => rw [ex] at h; exact h.elim
      | some d =>
        cases ey : D.pyL ys with
        | none => rw [ex, ey] at h; exact h.elim
        | some ds =>
          rw [ex, ey] at h
          obtain ⟨⟨s1, s2⟩, h⟩ := ite_inv h
          have d1 := py_dp (K := X.K) x ex rx
          have d2 : Dp X.K H (.ref q) (.list ds) := .lst (SqL.of hq) (py_dps ys ey cl.1)
          refine .inr ?_
          cases neg with
          | true => rw [if_pos rfl]; exact ⟨d, ds, d1, d2, s1, s2, fin _ h⟩
          | false => rw [if_neg Bool.false_ne_true]; exact ⟨d, ds, d1, d2, s1, s2, fin _ h⟩
  | tup ys =>
    have cn0 := Cn.weak (n := 0) (Nat.zero_le _) hm (.inl (by decide)) ok cy
    obtain ⟨q, vs, rfl, hq, cl⟩ := cn0
    obtain ⟨hf, h⟩ := ite_inv (show Rs p W σ H (if flatD x = true ∧ ys.all flatD = true then Res.ok (inFlat x ys) else .stuck) k from h)
    obtain ⟨f1, f2⟩ := flat_in hf.1 rx hf.2 cl.1
    refine .inl ⟨q, vs, rfl, .inr (SqT.of hq), (flat_rep hf.1 rx).1, f1, ?_⟩
    rw [f2]
    cases neg <;> exact fin _ h
  | _ => exact h.elim
theorem s_inn (ha : PE X l (tE p G rc W a)) (hb : PE X r (tE p G rc W b)) (hl : plainX r = true) : PE X (.Compare l [.In] [r] pos) (tE p G rc W (.inn a b)) ∧ PT X (.Compare l [.In] [r] pos) (tT p G W (.inn a b)) := by
  refine cmp_both g.rcl (op_in_seq.or (op_inD (by have := g.room.un; omega))) ha hb hl fun σ H Q h => ?_
  obtain ⟨env, fl, A, er, h⟩ := h
  refine two g.rcl er h fun x y v u H2 s ok o1 o2 h2 => ?_
  exact in_core g o1.rep o2.cn (E.cct_two b fl) (ok.same s) (Rs.bind h2) false Q fun b k => k _ H2 s (Val.pure (av := nobody) rfl rfl) rfl
theorem s_notin (ha : PE X l (tE p G rc W a)) (hb : PE X r (tE p G rc W b)) (hl : plainX r = true) : PE X (.Compare l [.NotIn] [r] pos) (tE p G rc W (.notin a b)) ∧ PT X (.Compare l [.NotIn] [r] pos) (tT p G W (.notin a b)) := by
  refine cmp_both g.rcl (op_notIn_seq.or (op_notInD (by have := g.room.un; omega))) ha hb hl fun σ H Q h => ?_
  obtain ⟨env, fl, A, er, h⟩ := h
  refine two g.rcl er h fun x y v u H2 s ok o1 o2 h2 => ?_
  exact in_core g o1.rep o2.cn (E.cct_two b fl) (ok.same s) (Rs.bind h2) true Q fun b k => k _ H2 s (Val.pure (av := nobody) rfl rfl) rfl
/-! ### dicts -/
theorem s_dnew : PE X (.Dict [] [] pos) (tE p G rc W .dnew) := by
  refine pe_dnewT.imp fun σ H Q h => ?_
  obtain ⟨env, fl, A, er, h⟩ := h
  intro q hq
  have s := same_upd (o := .dT []) hq
  have n2 : ¬ A.a2 q := fun z => er.ok.dom q z hq
  have val : Val p 8 A H (upd H q (.dT [])) (.dic []) (.ref q) := by
    refine ⟨fun a => if a = q then some [] else none, fun a z => ?_, ?_⟩
    · by_cases e : a = q
      · subst e; exact ⟨hq, by rw [upd_same]; intro z; cases z⟩
      · exact absurd (if_neg e) z
    · show Own p _ _ _ 6 [] (.dic []) (.ref q)
      exact ⟨q, [], rfl, upd_same, if_pos rfl, rfl, fun j c d c' w e _ => by simp at e⟩
  exact Rs.ok h _ _ s val (val.cn (by decide) er.ok s)
theorem dic_get {σ : L2.St} {H : Hp} {x y : D} {v u : V} {A : Avs} {m : Nat} {k : D → Prop} (cx : Cn p H m A x v) (ry : Rep p H A.a0 y u) (h : Rs p W σ H (dgetD x y) k) : ∃ q w d, v = .ref q ∧ DGet H q u (some w) ∧ k d ∧ Clo p H m A d w := by
  cases x with
  | dic kvs =>
    obtain ⟨q, ws, rfl, hq, n, hr, pu⟩ := cx
    have h : Rs p W σ H (match keyD y with | some ks => (match findD kvs ks with | some d => Res.ok d | none => .stuck) | none => .stuck) k := h
    cases ek : keyD y with
    | none => rw [ek] at h; exact h.elim
    | some ks =>
      rw [ek] at h
      have h : Rs p W σ H (match findD kvs ks with | some d => Res.ok d | none => .stuck) k := h
      cases ef : findD kvs ks with
      | none => rw [ef] at h; exact h.elim
      | some d =>
        rw [ef] at h
        obtain ⟨b, rfl, hb⟩ := Rep.key ek ry
        obtain ⟨w, hw, rw_⟩ := (RepK.find ks hr).1 d ef
        refine ⟨q, w, d, rfl, ?_, h, rw_, fun e => ?_⟩
        · have := DGet.t hq hb
          rw [hw] at this
          exact this
        · unfold findD at ef
          cases e2 : kvs.find? (fun kv => decide (kv.1 = ks)) with
          | none => rw [e2] at ef; cases ef
          | some kv =>
            rw [e2] at ef
            have : kv.2 = d := Option.some.inj ef
            rw [← this]
            exact pu e kv.1 kv.2 (List.mem_of_find?_eq_some e2)
  | _ => exact h.elim
theorem s_dget (ha : PE X l (tE p G rc W a)) (hb : PE X r (tE p G rc W b)) (hl : plainX r = true) : PE X (.Subscript l r pos) (tE p G rc W (.dget a b)) := by
  refine (pe_dget (hu_of g.room) ha hb (fun o i => notSl_plain hl o i)).imp fun σ H Q h => ?_
  obtain ⟨env, fl, A, er, h⟩ := h
  refine two g.rcl er h fun x y v u H2 s ok o1 o2 h2 => ?_
  have hm := E.cct_two (rc := rc) a fl
  obtain ⟨q, w, d, rfl, hd, k, c⟩ := dic_get g o1.cn o2.rep h2
  refine ⟨q, w, rfl, hd, k w H2 s ?_ ?_⟩
  · show Val p (tupC (a.cct rc fl)) A H H2 d w
    rw [tupC_id hm]; exact Clo.val' hm c
  · show Cn p H2 (tupC (tupC (a.cct rc fl))) A d w
    rw [tupC_id hm, tupC_id hm]; exact c.cn hm (ok.same s)
theorem dic_in {σ : L2.St} {H : Hp} {x y : D} {v u : V} {A : Avs} {m : Nat} {k : Bool → Prop} (cx : Cn p H m A x v) (ry : Rep p H A.a0 y u) (h : Rs p W σ H (dinD y x) k) : ∃ q o, v = .ref q ∧ DGet H q u o ∧ k o.isSome := by
  cases x with
  | dic kvs =>
    obtain ⟨q, ws, rfl, hq, n, hr, pu⟩ := cx
    have h : Rs p W σ H (match keyD y with | some ks => Res.ok (findD kvs ks).isSome | none => .stuck) k := h
    cases ek : keyD y with
    | none => rw [ek] at h; exact h.elim
    | some ks =>
      rw [ek] at h
      obtain ⟨b, rfl, hb⟩ := Rep.key ek ry
      refine ⟨q, _, rfl, DGet.t hq hb, ?_⟩
      have : (valV ws (ks.map Sum.inl)).isSome = (findD kvs ks).isSome := by
        cases ef : findD kvs ks with
        | none => rw [(RepK.find ks hr).2 ef]; rfl
        | some d =>
          obtain ⟨w, hw, _⟩ := (RepK.find ks hr).1 d ef
          rw [hw]; rfl
      rw [this]
      exact h
  | _ => exact h.elim
theorem s_din (ha : PE X l (tE p G rc W a)) (hb : PE X r (tE p G rc W b)) (hl : plainX r = true) : PE X (.Compare l [.In] [r] pos) (tE p G rc W (.din a b)) ∧ PT X (.Compare l [.In] [r] pos) (tT p G W (.din a b)) := by
  have w : ∀ σ H Q, tE p G rc W (.din a b) σ H Q → tDIn (tE p G rc W a) (tE p G rc W b) σ H Q := fun σ H Q h => by
    obtain ⟨env, fl, A, er, h⟩ := h
    refine two g.rcl er h fun x y v u H2 s ok o1 o2 h2 => ?_
    obtain ⟨q, o, rfl, hd, k⟩ := dic_in g o2.cn o1.rep (Rs.bind h2)
    exact ⟨q, o, rfl, hd, k _ H2 s (Val.pure (av := nobody) rfl rfl) rfl⟩
  exact ⟨(pe_cmp (pc_din (hu_of g.room) ha hb) (notMark hl)).imp w, (pt_cmp (pc_din (hu_of g.room) ha hb) (notMark hl)).imp fun σ H Q h => w _ _ _ (tT_E g.rcl h)⟩
theorem s_dnotin (ha : PE X l (tE p G rc W a)) (hb : PE X r (tE p G rc W b)) (hl : plainX r = true) : PE X (.Compare l [.NotIn] [r] pos) (tE p G rc W (.dnotin a b)) ∧ PT X (.Compare l [.NotIn] [r] pos) (tT p G W (.dnotin a b)) := by
  have w : ∀ σ H Q, tE p G rc W (.dnotin a b) σ H Q → tDNotIn (tE p G rc W a) (tE p G rc W b) σ H Q := fun σ H Q h => by
    obtain ⟨env, fl, A, er, h⟩ := h
    refine two g.rcl er h fun x y v u H2 s ok o1 o2 h2 => ?_
    obtain ⟨q, o, rfl, hd, k⟩ := dic_in g o2.cn o1.rep (Rs.bind h2)
    exact ⟨q, o, rfl, hd, k _ H2 s (Val.pure (av := nobody) rfl rfl) rfl⟩
  exact ⟨(pe_cmp (pc_dnotin (hu_of g.room) ha hb) (notMark hl)).imp w, (pt_cmp (pc_dnotin (hu_of g.room) ha hb) (notMark hl)).imp fun σ H Q h => w _ _ _ (tT_E g.rcl h)⟩
end

/-! ### all of them -/
theorem folded_plain {iter : Expr} {env : PySem.Env} {x : Value} (h : plainX iter = true) : foldedSetIterable iter env x = pure x := by cases iter <;> first | rfl | cases h
theorem isTrue_val {X : Cx} {x : Expr} {t : TE} (hp : PE X x t) (h : ∀ whole, PySem.isTrue x X.env whole = (do let v ← whole; standAt x.pos; holding [v] (truthy v))) : PT X x (tB t) := pt_val hp h
def plainT : Expr → Bool | .UnaryOp .Not _ _ => false | .BoolOp .. => false | .IfExp .. => false | .Compare .. => false | _ => true
theorem pt_plain {X : Cx} {p : Pm} {G : Gam} {rc : Nat → Nat} {W : WX} {e : E} {x : Expr} (hr : ∀ f, 2 ≤ rc f ∧ rc f ≤ 9) (h : PE X x (tE p G rc W e)) (hx : plainT x = true) : PT X x (tT p G W e) := by
  refine (pt_val h ?_).imp fun σ H Q q => tT_E hr q
  intro whole
  cases x <;> first | rfl | cases hx | skip
  rename_i o y pos
  cases o <;> first | rfl | cases hx
theorem and3 {a b c : Bool} (h : (a && b && c) = true) : a = true ∧ b = true ∧ c = true := by
  rw [Bool.and_eq_true, Bool.and_eq_true] at h
  exact ⟨h.1.1, h.1.2, h.2⟩
theorem and2 {a b : Bool} (h : (a && b) = true) : a = true ∧ b = true := by rwa [Bool.and_eq_true] at h
theorem chkEs_plain {T : Nm} {N : List Str} : ∀ (es : Es) {sc : Scope} {xs : List Expr}, chkEs T N es sc xs = true → ∀ y ∈ xs, plainX y = true
  | .nil, _, [], _, y, hy => nomatch hy
  | .nil, _, _ :: _, h, _, _ => by unfold chkEs at h; cases h
  | .cons e es, _, [], h, _, _ => by unfold chkEs at h; cases h
  | .cons e es, _, x :: xs, h, y, hy => by
    unfold chkEs at h
    obtain ⟨h1, h2⟩ := and2 h
    rcases List.mem_cons.mp hy with rfl | hy
    · exact chkE_plain e h1
    · exact chkEs_plain es h2 y hy
theorem tup_tg {tg : List Nat} {tx : Expr} {ns : List Str} (h : tgNames tg tx = some ns) (h2 : ∀ i, tg ≠ [i]) : ∃ ts k tp, tx = .Tuple ts k tp := by
  match tg, tx, h with
  | [i], .Name x pos, h => exact absurd rfl (h2 i)
  | [i, j], .Tuple [.Name x p1, .Name y p2] k pos, h => exact ⟨_, _, _, rfl⟩
theorem comp_loc {Y : Cx} {scope : Scope} {ns : List Str} (h : (ns.all fun n => locB Y.env.scope n && (loc1B Y.env.scope n || decide (scope.names.lookup n = some .cell))) = true) (hf : ∀ n, scope.names.lookup n = some .cell → Y.fn n = true := by (intro n hn; show (_ == _) = true; rw [hn]; rfl)) :
    ∀ n ∈ ns, L2.Loc Y.env.scope n ∧ (Y.fn n = true ∨ Y.env.scope.names.lookup n = some .local) := fun n hn => by
  obtain ⟨h1, h2⟩ := and2 (List.all_eq_true.mp h n hn)
  rw [Bool.or_eq_true] at h2
  refine ⟨locB_of h1, ?_⟩
  rcases h2 with h2 | h2
  · exact .inr (loc1B_of h2)
  · exact .inl (hf n (of_decide_eq_true h2))
section
variable {p : Pm} {T : Nm} {G : Gam} {rc : Nat → Nat} {kk : Nat} {N : List Str}
theorem isNm_inv {x : Expr} (h : isNm x = true) : ∃ m q, x = .Name m q := by cases x <;> first | exact ⟨_, _, rfl⟩ | cases h
mutual
theorem E_ok (e : E) (x : Expr) (W : WX) (X : Cx) (g : Good p T G rc kk W X) (hN : X.N = N) (h : chkE T N e X.env.scope x = true) : PE X x (tE p G rc W e) ∧ PT X x (tT p G W e) := by
  have pl := chkE_plain e h
  cases e with
  | int i =>
    unfold chkE at h
    split at h
    · rename_i j hc
      obtain ⟨k, pos, rfl⟩ := asConst_inv hc
      obtain rfl := of_decide_eq_true h
      exact ⟨s_int g, pt_plain g.rcl (s_int g) rfl⟩
    · cases h
  | bl i =>
    unfold chkE at h
    split at h
    · rename_i j hc
      obtain ⟨k, pos, rfl⟩ := asConst_inv hc
      obtain rfl := of_decide_eq_true h
      exact ⟨s_bl g, pt_plain g.rcl (s_bl g) rfl⟩
    · cases h
  | non =>
    unfold chkE at h
    split at h
    · rename_i hc
      obtain ⟨k, pos, rfl⟩ := asConst_inv hc
      exact ⟨s_non g, pt_plain g.rcl (s_non g) rfl⟩
    · cases h
  | str i =>
    unfold chkE at h
    split at h
    · rename_i j hc
      obtain ⟨k, pos, rfl⟩ := asConst_inv hc
      obtain rfl := of_decide_eq_true h
      exact ⟨s_str g, pt_plain g.rcl (s_str g) rfl⟩
    · cases h
  | v i =>
    unfold chkE at h
    split at h
    · rename_i n hc
      obtain ⟨pos, rfl⟩ := asName_inv hc
      obtain ⟨h1, h2, h3⟩ := and3 h
      have h1 := of_decide_eq_true h1
      rw [← hN] at h1
      exact ⟨s_v g h1 h2 h3, pt_plain g.rcl (s_v g h1 h2 h3) rfl⟩
    · cases h
  | pur a =>
    unfold chkE at h
    obtain ⟨h1, h2⟩ := E_ok a x W X g hN h
    refine ⟨s_pur g h1, h2.imp fun σ H Q q => ?_⟩
    obtain ⟨env, fl, A, er, q⟩ := q
    exact ⟨env, fl, A, er, (Rs.bind q).mono fun d _ q => (ite_inv q).2⟩
  | pin a =>
    unfold chkE at h
    obtain ⟨h1, h2⟩ := E_ok a x W X g hN h
    refine ⟨s_pin g h1, h2.imp fun σ H Q q => ?_⟩
    obtain ⟨env, fl, A, er, q⟩ := q
    refine ⟨env, fl, A, er, (Rs.bind q).mono fun d _ q => ?_⟩
    exfalso
    cases hp : pinD d with
    | stuck => rw [hp] at q; exact q
    | exc c fs => unfold pinD at hp; split at hp <;> first | cases hp | (split at hp <;> cases hp)
    | ok d' =>
      rw [hp] at q
      obtain ⟨b, hb, _⟩ := q
      obtain ⟨rfl, z⟩ := pinD_inv hp
      rcases z with ⟨_, e, _⟩ | ⟨_, e, _⟩ | ⟨_, e⟩ <;> (rw [hb] at e; cases e)
  | ar op a b =>
    unfold chkE at h
    split at h
    · rename_i l o r hc
      obtain ⟨pos, rfl⟩ := asBin_inv hc
      obtain ⟨h1, h2, h3⟩ := and3 h
      obtain rfl := of_decide_eq_true h1
      have q := s_ar g (op := op) (pos := pos) (E_ok a l W X g hN h2).1 (E_ok b r W X g hN h3).1
      exact ⟨q, pt_plain g.rcl q rfl⟩
    · cases h
  | neg a =>
    unfold chkE at h
    split at h
    · rename_i y hc
      obtain ⟨pos, rfl⟩ := asUn_inv hc
      have q := s_neg g (pos := pos) (E_ok a y W X g hN h).1
      exact ⟨q, pt_plain g.rcl q rfl⟩
    · cases h
  | cmp op a b =>
    unfold chkE at h
    split at h
    · rename_i l o r hc
      obtain ⟨pos, rfl⟩ := asCmp_inv hc
      obtain ⟨h1, h2, h3⟩ := and3 h
      obtain rfl := of_decide_eq_true h1
      exact s_cmp g (E_ok a l W X g hN h2).1 (E_ok b r W X g hN h3).1 (chkE_plain b h3)
    · cases h
  | eq a b =>
    unfold chkE at h
    split at h
    · rename_i l r hc
      obtain ⟨pos, rfl⟩ := asCmp_inv hc
      obtain ⟨h2, h3⟩ := and2 h
      exact s_eq g (E_ok a l W X g hN h2).1 (E_ok b r W X g hN h3).1 (chkE_plain b h3)
    · cases h
  | ne a b =>
    unfold chkE at h
    split at h
    · rename_i l r hc
      obtain ⟨pos, rfl⟩ := asCmp_inv hc
      obtain ⟨h2, h3⟩ := and2 h
      exact s_ne g (E_ok a l W X g hN h2).1 (E_ok b r W X g hN h3).1 (chkE_plain b h3)
    · cases h
  | eqv a b =>
    unfold chkE at h
    split at h
    · rename_i l r hc
      obtain ⟨pos, rfl⟩ := asCmp_inv hc
      obtain ⟨h2, h3⟩ := and2 h
      exact s_eqv g (E_ok a l W X g hN h2).1 (E_ok b r W X g hN h3).1 (chkE_plain b h3)
    · cases h
  | nev a b =>
    unfold chkE at h
    split at h
    · rename_i l r hc
      obtain ⟨pos, rfl⟩ := asCmp_inv hc
      obtain ⟨h2, h3⟩ := and2 h
      exact s_nev g (E_ok a l W X g hN h2).1 (E_ok b r W X g hN h3).1 (chkE_plain b h3)
    · cases h
  | isN a =>
    unfold chkE at h
    split at h
    · rename_i l r hc
      obtain ⟨pos, rfl⟩ := asCmp_inv hc
      obtain ⟨h2, h3⟩ := and2 h
      split at h3
      · rename_i hk
        obtain ⟨k, q, rfl⟩ := asConst_inv hk
        exact s_isN g (E_ok a l W X g hN h2).1
      · cases h3
    · cases h
  | isB a b =>
    unfold chkE at h
    split at h
    · rename_i l r hc
      obtain ⟨pos, rfl⟩ := asCmp_inv hc
      obtain ⟨h2, h3⟩ := and2 h
      exact s_isB g (E_ok a l W X g hN h2).1 (E_ok b r W X g hN h3).1 (chkE_plain b h3)
    · cases h
  | notN a =>
    unfold chkE at h
    split at h
    · rename_i l r hc
      obtain ⟨pos, rfl⟩ := asCmp_inv hc
      obtain ⟨h2, h3⟩ := and2 h
      split at h3
      · rename_i hk
        obtain ⟨k, q, rfl⟩ := asConst_inv hk
        exact s_notN g (E_ok a l W X g hN h2).1
      · cases h3
    · cases h
  | inn a b =>
    unfold chkE at h
    split at h
    · rename_i l r hc
      obtain ⟨pos, rfl⟩ := asCmp_inv hc
      obtain ⟨h2, h3⟩ := and2 h
      exact s_inn g (E_ok a l W X g hN h2).1 (E_ok b r W X g hN h3).1 (chkE_plain b h3)
    · cases h
  | notin a b =>
    unfold chkE at h
    split at h
    · rename_i l r hc
      obtain ⟨pos, rfl⟩ := asCmp_inv hc
      obtain ⟨h2, h3⟩ := and2 h
      exact s_notin g (E_ok a l W X g hN h2).1 (E_ok b r W X g hN h3).1 (chkE_plain b h3)
    · cases h
  | din a b =>
    unfold chkE at h
    split at h
    · rename_i l r hc
      obtain ⟨pos, rfl⟩ := asCmp_inv hc
      obtain ⟨h2, h3⟩ := and2 h
      exact s_din g (E_ok a l W X g hN h2).1 (E_ok b r W X g hN h3).1 (chkE_plain b h3)
    · cases h
  | dnotin a b =>
    unfold chkE at h
    split at h
    · rename_i l r hc
      obtain ⟨pos, rfl⟩ := asCmp_inv hc
      obtain ⟨h2, h3⟩ := and2 h
      exact s_dnotin g (E_ok a l W X g hN h2).1 (E_ok b r W X g hN h3).1 (chkE_plain b h3)
    · cases h
  | not a =>
    unfold chkE at h
    split at h
    · rename_i y hc
      obtain ⟨pos, rfl⟩ := asUn_inv hc
      obtain ⟨q1, q2⟩ := E_ok a y W X g hN h
      exact s_not g q1 q2
    · cases h
  | and a b =>
    unfold chkE at h
    split at h
    · rename_i l r hc
      obtain ⟨h2, h3⟩ := and2 h
      obtain ⟨q1, q2⟩ := E_ok a l W X g hN h2
      obtain ⟨q3, q4⟩ := E_ok b r W X g hN h3
      exact s_and g q1 q2 q3 q4 hc
    · cases h
  | or a b =>
    unfold chkE at h
    split at h
    · rename_i l r hc
      obtain ⟨h2, h3⟩ := and2 h
      obtain ⟨q1, q2⟩ := E_ok a l W X g hN h2
      obtain ⟨q3, q4⟩ := E_ok b r W X g hN h3
      exact s_or g q1 q2 q3 q4 hc
    · cases h
  | ite c a b => unfold chkE at h; cases h
  | ix a b =>
    unfold chkE at h
    split at h
    · rename_i o i hc
      obtain ⟨⟨pos, rfl⟩, _⟩ := asSub_inv hc
      obtain ⟨h2, h3⟩ := and2 h
      have q := s_ix g (pos := pos) (E_ok a o W X g hN h2).1 (E_ok b i W X g hN h3).1 (chkE_plain b h3)
      exact ⟨q, pt_plain g.rcl q rfl⟩
    · cases h
  | dget a b =>
    unfold chkE at h
    split at h
    · rename_i o i hc
      obtain ⟨⟨pos, rfl⟩, _⟩ := asSub_inv hc
      obtain ⟨h2, h3⟩ := and2 h
      have q := s_dget g (pos := pos) (E_ok a o W X g hN h2).1 (E_ok b i W X g hN h3).1 (chkE_plain b h3)
      exact ⟨q, pt_plain g.rcl q rfl⟩
    · cases h
  | dnew =>
    unfold chkE at h
    split at h
    · have q := s_dnew g (W := W) (pos := by assumption)
      exact ⟨q, pt_plain g.rcl q rfl⟩
    · cases h
  | slL a lo hi =>
    unfold chkE at h
    split at h
    · rename_i o l u hc
      obtain ⟨q0, pos, rfl⟩ := asSl_inv hc
      obtain ⟨h1, h2, h3⟩ := and3 h
      have q := s_slL g (pos := pos) (q := q0) (E_ok a o W X g hN h1).1 (O_ok lo l W X g hN h2) (O_ok hi u W X g hN h3)
      exact ⟨q, pt_plain g.rcl q rfl⟩
    · cases h
  | slT a lo hi =>
    unfold chkE at h
    split at h
    · rename_i o l u hc
      obtain ⟨q0, pos, rfl⟩ := asSl_inv hc
      obtain ⟨h1, h2, h3⟩ := and3 h
      have q := s_slT g (pos := pos) (q := q0) (E_ok a o W X g hN h1).1 (O_ok lo l W X g hN h2) (O_ok hi u W X g hN h3)
      exact ⟨q, pt_plain g.rcl q rfl⟩
    · cases h
  | cat a b =>
    unfold chkE at h
    split at h
    · rename_i l r hc
      obtain ⟨pos, rfl⟩ := asBin_inv hc
      obtain ⟨h2, h3⟩ := and2 h
      have q := s_cat g (pos := pos) (E_ok a l W X g hN h2).1 (E_ok b r W X g hN h3).1
      exact ⟨q, pt_plain g.rcl q rfl⟩
    · cases h
  | catT a b =>
    unfold chkE at h
    split at h
    · rename_i l r hc
      obtain ⟨pos, rfl⟩ := asBin_inv hc
      obtain ⟨h2, h3⟩ := and2 h
      have q := s_catT g (pos := pos) (E_ok a l W X g hN h2).1 (E_ok b r W X g hN h3).1
      exact ⟨q, pt_plain g.rcl q rfl⟩
    · cases h
  | rep a b =>
    unfold chkE at h
    split at h
    · rename_i l r hc
      obtain ⟨pos, rfl⟩ := asBin_inv hc
      obtain ⟨h2, h3⟩ := and2 h
      have q := s_rep g (pos := pos) (E_ok a l W X g hN h2).1 (E_ok b r W X g hN h3).1
      exact ⟨q, pt_plain g.rcl q rfl⟩
    · cases h
  | tup es =>
    unfold chkE at h
    split at h
    · rename_i xs hc
      obtain ⟨k, pos, rfl⟩ := asTup_inv hc
      have q := s_tup g (pos := pos) (k := k) (Es_ok es xs W X g hN h)
      exact ⟨q, pt_plain g.rcl q rfl⟩
    · cases h
  | lst es =>
    unfold chkE at h
    split at h
    · rename_i xs hc
      obtain ⟨pos, rfl⟩ := asLst_inv hc
      have q := s_lst g (pos := pos) (Es_ok es xs W X g hN h)
      exact ⟨q, pt_plain g.rcl q rfl⟩
    · cases h
  | call f es =>
    unfold chkE at h
    split at h
    · rename_i n y ys hc
      obtain ⟨q0, pos, rfl⟩ := asCall_inv hc
      obtain ⟨h, h4⟩ := and2 h
      obtain ⟨h1, h2, h3⟩ := and3 h
      have q := s_call g (pos := pos) (q := q0) (of_decide_eq_true h1) h2 h3 (chkEs_plain es h4) (Es_ok es (y :: ys) W X g hN h4)
      exact ⟨q, pt_plain g.rcl q rfl⟩
    · cases h
  | len a =>
    unfold chkE at h
    split at h
    · rename_i n y hc
      obtain ⟨q0, pos, rfl⟩ := asCall_inv hc
      obtain ⟨h1, h2, h3⟩ := and3 h
      have q := s_len g (pos := pos) (q := q0) (E_ok a y W X g hN h3).1 (of_decide_eq_true h1) h2 (chkE_plain a h3)
      exact ⟨q, pt_plain g.rcl q rfl⟩
    · cases h
  | lstOf a =>
    unfold chkE at h
    split at h
    · rename_i n y hc
      obtain ⟨q0, pos, rfl⟩ := asCall_inv hc
      obtain ⟨h1, h2, h3⟩ := and3 h
      have q := s_lstOf g (pos := pos) (q := q0) (E_ok a y W X g hN h3).1 (of_decide_eq_true h1) h2 (chkE_plain a h3)
      exact ⟨q, pt_plain g.rcl q rfl⟩
    · cases h
  | tupOf a =>
    unfold chkE at h
    split at h
    · rename_i n y hc
      obtain ⟨q0, pos, rfl⟩ := asCall_inv hc
      obtain ⟨h1, h2, h3⟩ := and3 h
      have q := s_tupOf g (pos := pos) (q := q0) (E_ok a y W X g hN h3).1 (of_decide_eq_true h1) h2 (chkE_plain a h3)
      exact ⟨q, pt_plain g.rcl q rfl⟩
    · cases h
  | abs a =>
    unfold chkE at h
    split at h
    · rename_i n y hc
      obtain ⟨q0, pos, rfl⟩ := asCall_inv hc
      obtain ⟨h1, h2, h3⟩ := and3 h
      have q := s_abs g (pos := pos) (q := q0) (E_ok a y W X g hN h3).1 (of_decide_eq_true h1) h2 (chkE_plain a h3)
      exact ⟨q, pt_plain g.rcl q rfl⟩
    · cases h
  | sum a =>
    unfold chkE at h
    split at h
    · rename_i n y hc
      obtain ⟨q0, pos, rfl⟩ := asCall_inv hc
      obtain ⟨h1, h2, h3⟩ := and3 h
      have q := s_sum g (pos := pos) (q := q0) (E_ok a y W X g hN h3).1 (of_decide_eq_true h1) h2 (chkE_plain a h3)
      exact ⟨q, pt_plain g.rcl q rfl⟩
    · cases h
  | maxL a =>
    unfold chkE at h
    split at h
    · rename_i n y hc
      obtain ⟨q0, pos, rfl⟩ := asCall_inv hc
      obtain ⟨h1, h2, h3⟩ := and3 h
      have q := s_maxL g (pos := pos) (q := q0) (E_ok a y W X g hN h3).1 (of_decide_eq_true h1) h2 (chkE_plain a h3)
      exact ⟨q, pt_plain g.rcl q rfl⟩
    · cases h
  | lrng a =>
    unfold chkE at h
    split at h
    · rename_i n y hc
      obtain ⟨q0, pos, rfl⟩ := asCall_inv hc
      obtain ⟨h1, h2, h3⟩ := and3 h
      split at h3
      · rename_i m z hc2
        obtain ⟨q1, pos1, rfl⟩ := asCall_inv hc2
        obtain ⟨h4, h5, h6⟩ := and3 h3
        have q := s_lrng g (pos := pos) (q := q0) (q2 := q1) (pos2 := pos1) (E_ok a z W X g hN h6).1 (of_decide_eq_true h1) h2 (of_decide_eq_true h4) h5 (chkE_plain a h6)
        exact ⟨q, pt_plain g.rcl q rfl⟩
      · cases h3
    · cases h
  | max2 a b =>
    unfold chkE at h
    split at h
    · rename_i n y z hc
      obtain ⟨q0, pos, rfl⟩ := asCall_inv hc
      obtain ⟨h, h4⟩ := and2 h
      obtain ⟨h1, h2, h3⟩ := and3 h
      have q := s_max2 g (pos := pos) (q := q0) (E_ok a y W X g hN h3).1 (E_ok b z W X g hN h4).1 (of_decide_eq_true h1) h2 (chkE_plain a h3) (chkE_plain b h4)
      exact ⟨q, pt_plain g.rcl q rfl⟩
    · cases h
  | min2 a b =>
    unfold chkE at h
    split at h
    · rename_i n y z hc
      obtain ⟨q0, pos, rfl⟩ := asCall_inv hc
      obtain ⟨h, h4⟩ := and2 h
      obtain ⟨h1, h2, h3⟩ := and3 h
      have q := s_min2 g (pos := pos) (q := q0) (E_ok a y W X g hN h3).1 (E_ok b z W X g hN h4).1 (of_decide_eq_true h1) h2 (chkE_plain a h3) (chkE_plain b h4)
      exact ⟨q, pt_plain g.rcl q rfl⟩
    · cases h
  | isI t a =>
    unfold chkE at h
    split at h
    · rename_i n y z hc
      obtain ⟨q0, pos, rfl⟩ := asCall_inv hc
      obtain ⟨h, h4⟩ := and2 h
      obtain ⟨h1, h2, h3⟩ := and3 h
      split at h4
      · rename_i m hc2
        obtain ⟨q1, rfl⟩ := asName_inv hc2
        obtain ⟨h5, h6⟩ := and2 h4
        have q := s_isI g (pos := pos) (q := q0) (q2 := q1) (ty := t) (E_ok a y W X g hN h3).1 (of_decide_eq_true h1) h2 (of_decide_eq_true h5) h6 (chkE_plain a h3)
        exact ⟨q, pt_plain g.rcl q rfl⟩
      · cases h4
    · cases h
  | isX cs tp a =>
    unfold chkE at h
    split at h
    · rename_i n y z hc
      obtain ⟨q0, pos, rfl⟩ := asCall_inv hc
      obtain ⟨h, h4⟩ := and2 h
      obtain ⟨h1, h2, h3⟩ := and3 h
      have q := s_isX g (pos := pos) (q := q0) (E_ok a y W X g hN h3).1 (of_decide_eq_true h1) h2 (chkE_plain a h3) h4
      exact ⟨q, pt_plain g.rcl q rfl⟩
    · cases h
  | isVE a =>
    unfold chkE at h
    split at h
    · rename_i n y z hc
      obtain ⟨q0, pos, rfl⟩ := asCall_inv hc
      obtain ⟨h, h4⟩ := and2 h
      obtain ⟨h1, h2, h3⟩ := and3 h
      have q := s_isVE g (pos := pos) (q := q0) (E_ok a y W X g hN h3).1 (of_decide_eq_true h1) h2 (chkE_plain a h3) h4
      exact ⟨q, pt_plain g.rcl q rfl⟩
    · cases h
  | xf f a =>
    unfold chkE at h
    split at h
    · rename_i o n hc
      obtain ⟨pos, rfl⟩ := asAttr_inv hc
      obtain ⟨h, h4⟩ := and2 h
      obtain ⟨h1, h2, h3⟩ := and3 h
      obtain ⟨m, q0, rfl⟩ := isNm_inv h2
      cases (of_decide_eq_true h1 : n = f)
      have q := s_xf g (pos := pos) (E_ok a _ W X g hN h3).1 h4 rfl
      exact ⟨q, pt_plain g.rcl q rfl⟩
    · cases h
  | mkx c fs es => unfold chkE at h; cases h
  | idx a b =>
    unfold chkE at h
    split at h
    · rename_i o n y hc
      obtain ⟨apos, pos, rfl, hli⟩ := asMeth_inv hc
      obtain ⟨h, h4⟩ := and2 h
      obtain ⟨h1, h2, h3⟩ := and3 h
      obtain ⟨m, q0, rfl⟩ := isNm_inv h2
      cases (of_decide_eq_true h1 : n = "index")
      have q := s_idx g (apos := apos) (pos := pos) (E_ok a _ W X g hN h3).1 (E_ok b y W X g hN h4).1 (chkE_plain b h4) hli
      exact ⟨q, pt_plain g.rcl q rfl⟩
    · cases h
  | revL a =>
    unfold chkE at h
    split at h
    · rename_i n y hc
      obtain ⟨q0, pos, rfl⟩ := asCall_inv hc
      obtain ⟨h1, h2, h3⟩ := and3 h
      split at h3
      · rename_i m z hc2
        obtain ⟨q1, pos1, rfl⟩ := asCall_inv hc2
        obtain ⟨h4, h5, h6⟩ := and3 h3
        have q := s_revL g (pos := pos) (q := q0) (q2 := q1) (pos2 := pos1) (E_ok a z W X g hN h6).1 (of_decide_eq_true h1) h2 (of_decide_eq_true h4) h5 (chkE_plain a h6)
        exact ⟨q, pt_plain g.rcl q rfl⟩
      · cases h3
    · cases h
  | gint n i =>
    unfold chkE at h
    split at h
    · rename_i m hm
      obtain ⟨pos, rfl⟩ := asName_inv hm
      obtain ⟨h, h4⟩ := and2 h
      obtain ⟨h1, h2, h3⟩ := and3 h
      have hmn : m = n := of_decide_eq_true h1
      subst hmn
      obtain ⟨z, hz, e⟩ := List.any_eq_true.mp h4
      rw [of_decide_eq_true e] at hz
      obtain ⟨t, ht⟩ := g.con m i hz
      have q : PE X (.Name m pos) (tE p G rc W (.gint m i)) := (pe_glob (v := .int i) (gl_of h2) ht ⟨t, rfl⟩ (nm_of h3).1).imp fun σ H Q ⟨env, fl, A, er, h⟩ => done (v := .int i) (fun _ _ e => e) rfl (fun m => show Cn p H m A (.int i) (.int i) from rfl) rfl h
      exact ⟨q, pt_plain g.rcl q rfl⟩
    · cases h
  | fld f a =>
    unfold chkE at h
    split at h
    · rename_i o n hc
      obtain ⟨pos, rfl⟩ := asAttr_inv hc
      obtain ⟨h, h5⟩ := and2 h
      obtain ⟨h, h4⟩ := and2 h
      obtain ⟨h1, h2, h3⟩ := and3 h
      obtain ⟨m, q0, rfl⟩ := isNm_inv h2
      cases (of_decide_eq_true h1 : n = f)
      rw [Bool.or_eq_true, decide_eq_true_eq, decide_eq_true_eq] at h4
      have q := s_fld g (pos := pos) (E_ok a _ W X g hN h3).1 h5 h4 rfl
      exact ⟨q, pt_plain g.rcl q rfl⟩
    · cases h
  | meth f m a es =>
    unfold chkE at h
    split at h
    · rename_i o n as hc
      obtain ⟨apos, pos, rfl, hl⟩ := asMeth_inv hc
      simp only [Bool.and_eq_true, decide_eq_true_eq] at h
      obtain ⟨⟨⟨⟨⟨⟨h0, h1⟩, h2⟩, h3⟩, h4⟩, h5⟩, h6⟩ := h
      obtain ⟨x, q0, rfl⟩ := isNm_inv h3
      cases h1
      have q := s_meth g (pos := pos) (apos := apos) h2 h0 (E_ok a _ W X g hN h4).1 (chkEs_plain es h5) (Es_ok es as W X g hN h5) (fun e => by
        subst e
        cases es with
        | nil => rfl
        | cons e es => unfold chkEs at h5; cases h5) h6 hl
      exact ⟨q, pt_plain g.rcl q rfl⟩
    · cases h
  | mk f es =>
    unfold chkE at h
    split at h
    · rename_i n y ys hc
      obtain ⟨q0, pos, rfl⟩ := asCall_inv hc
      obtain ⟨h, h4⟩ := and2 h
      obtain ⟨h1, h2, h3⟩ := and3 h
      have q := s_mk g (pos := pos) (q := q0) (of_decide_eq_true h1) h2 h3 (chkEs_plain es h4) (Es_ok es (y :: ys) W X g hN h4)
      exact ⟨q, pt_plain g.rcl q rfl⟩
    · cases h
  | comp tg it e =>
    unfold chkE at h
    split at h
    · rename_i elt tgx iter scope hc
      obtain ⟨pos, rfl⟩ := asComp_inv hc
      split at h
      · rename_i ns hns
        obtain ⟨h, h4⟩ := and2 h
        obtain ⟨h1, h2, h3⟩ := and3 h
        obtain ⟨h0, h1⟩ := and2 h1
        obtain ⟨i1, i2⟩ := It_ok it iter tgx tg ns hns h0 W X g hN h1
        have bo := blkOk_by (by rw [← hN] at h2; exact h2)
        have ez : (ns.zip tg).map (·.2) = tg := tg_zip hns
        have q := (pe_lc (own := ns.zip tg) (pos := pos) g.calm g.nd i1 bo (fun s H C cl fp => pg_tg (Y := X.blk s H scope (compEnvC scope cl C X.env) fp) g.calm g.nd hns bo.ix (comp_loc h3)) (fun _ _ _ _ _ => pts_nil)
          (fun s H C cl fp => (E_ok e elt noW (X.blk s H scope (compEnvC scope cl C X.env) fp) g.blk hN h4).1) (fun x => folded_plain i2)).imp (t' := tE p G rc W (.comp tg it e)) fun σ H Q q => by rw [ez]; exact lc_imp g q
        exact ⟨q, pt_plain g.rcl q rfl⟩
      · cases h
    · cases h
  | compIf tg it c e =>
    unfold chkE at h
    split at h
    · rename_i elt tgx iter cx scope hc
      obtain ⟨pos, rfl⟩ := asComp_inv hc
      split at h
      · rename_i ns hns
        obtain ⟨h, h5⟩ := and2 h
        obtain ⟨h, h4⟩ := and2 h
        obtain ⟨h1, h2, h3⟩ := and3 h
        obtain ⟨h0, h1⟩ := and2 h1
        obtain ⟨i1, i2⟩ := It_ok it iter tgx tg ns hns h0 W X g hN h1
        have bo := blkOk_by (by rw [← hN] at h2; exact h2)
        have ez : (ns.zip tg).map (·.2) = tg := tg_zip hns
        have q := (pe_lc (own := ns.zip tg) (pos := pos) g.calm g.nd i1 bo (fun s H C cl fp => pg_tg (Y := X.blk s H scope (compEnvC scope cl C X.env) fp) g.calm g.nd hns bo.ix (comp_loc h3))
          (fun s H C cl fp => pts_one (E_ok c cx noW (X.blk s H scope (compEnvC scope cl C X.env) fp) g.blk hN h4).2)
          (fun s H C cl fp => (E_ok e elt noW (X.blk s H scope (compEnvC scope cl C X.env) fp) g.blk hN h5).1) (fun x => folded_plain i2)).imp (t' := tE p G rc W (.compIf tg it c e)) fun σ H Q q => by rw [ez]; exact lcIf_imp g q
        exact ⟨q, pt_plain g.rcl q rfl⟩
      · cases h
    · cases h
termination_by structural e
theorem Es_ok (es : Es) (xs : List Expr) (W : WX) (X : Cx) (g : Good p T G rc kk W X) (hN : X.N = N) (h : chkEs T N es X.env.scope xs = true) : PA X xs (tEs p G rc W es) := by
  cases es with
  | nil =>
    cases xs with
    | nil => exact s_nil g
    | cons x xs => unfold chkEs at h; cases h
  | cons e es =>
    cases xs with
    | nil => unfold chkEs at h; cases h
    | cons x xs =>
      unfold chkEs at h
      obtain ⟨h1, h2⟩ := and2 h
      exact s_cons g (chkE_plain e h1) (E_ok e x W X g hN h1).1 (Es_ok es xs W X g hN h2)
termination_by structural es
theorem O_ok (o : O) (x : Option Expr) (W : WX) (X : Cx) (g : Good p T G rc kk W X) (hN : X.N = N) (h : chkO T N o X.env.scope x = true) : PO X x (tO p G W o) := by
  cases o with
  | no =>
    cases x with
    | none => exact po_none.imp fun σ H Q ⟨env, fl, A, er, q⟩ => Rs.ok q H (fun _ _ e => e)
    | some x => unfold chkO at h; cases h
  | yes e =>
    cases x with
    | none => unfold chkO at h; cases h
    | some x =>
      unfold chkO at h
      refine (po_some (E_ok e x W X g hN h).1).imp fun σ H Q q => ?_
      obtain ⟨env, fl, A, er, q⟩ := q
      refine one g.rcl er (F := fun d => match d with | .int i => Res.ok (some i) | _ => .stuck) q fun d v H1 s ok o1 _ h1 => ?_
      cases d with
      | int i =>
        obtain rfl : v = .int i := o1.rep
        exact ⟨i, rfl, h1 H1 s⟩
      | _ => exact h1.elim
termination_by structural o
theorem It_ok (it : It) (x tx : Expr) (tg : List Nat) (ns : List Str) (hns : tgNames tg tx = some ns) (h0 : tgIt it tg = true) (W : WX) (X : Cx) (g : Good p T G rc kk W X) (hN : X.N = N) (h : chkIt T N it X.env.scope x = true) : PI X tx x (tIt p G rc W it) ∧ plainX x = true := by
  cases it with
  | lst e => unfold chkIt at h; exact ⟨i_lst g (E_ok e x W X g hN h).1, chkE_plain e h⟩
  | tup e => unfold chkIt at h; exact ⟨i_tup g (E_ok e x W X g hN h).1, chkE_plain e h⟩
  | rng e =>
    unfold chkIt at h
    split at h
    · rename_i n y hc
      obtain ⟨q0, pos, rfl⟩ := asCall_inv hc
      obtain ⟨h1, h2, h3⟩ := and3 h
      exact ⟨i_rng g (E_ok e y W X g hN h3).1 (of_decide_eq_true h1) h2 (chkE_plain e h3), rfl⟩
    · cases h
  | rev e =>
    unfold chkIt at h
    split at h
    · rename_i n y hc
      obtain ⟨q0, pos, rfl⟩ := asCall_inv hc
      obtain ⟨h1, h2, h3⟩ := and3 h
      exact ⟨i_rev g (E_ok e y W X g hN h3).1 (of_decide_eq_true h1) h2 (chkE_plain e h3), rfl⟩
    · cases h
  | rng2 a b =>
    unfold chkIt at h
    split at h
    · rename_i n y z hc
      obtain ⟨q0, pos, rfl⟩ := asCall_inv hc
      obtain ⟨h, h4⟩ := and2 h
      obtain ⟨h1, h2, h3⟩ := and3 h
      exact ⟨i_rng2 g (E_ok a y W X g hN h3).1 (E_ok b z W X g hN h4).1 (of_decide_eq_true h1) h2 (chkE_plain a h3) (chkE_plain b h4), rfl⟩
    · cases h
  | enum e =>
    unfold chkIt at h
    split at h
    · rename_i n y hc
      obtain ⟨q0, pos, rfl⟩ := asCall_inv hc
      obtain ⟨h1, h2, h3⟩ := and3 h
      obtain ⟨ts, k, tp, rfl⟩ : ∃ ts k tp, tx = .Tuple ts k tp := tup_tg hns (by intro i e; subst e; cases h0)
      exact ⟨i_enum g (E_ok e y W X g hN h3).1 (of_decide_eq_true h1) h2 (chkE_plain e h3), rfl⟩
    · cases h
  | zip a b =>
    unfold chkIt at h
    split at h
    · rename_i n y z hc
      obtain ⟨q0, pos, rfl⟩ := asCall_inv hc
      obtain ⟨h, h4⟩ := and2 h
      obtain ⟨h1, h2, h3⟩ := and3 h
      obtain ⟨ts, k, tp, rfl⟩ : ∃ ts k tp, tx = .Tuple ts k tp := tup_tg hns (by intro i e; subst e; cases h0)
      exact ⟨i_zip g (E_ok a y W X g hN h3).1 (E_ok b z W X g hN h4).1 (of_decide_eq_true h1) h2 (chkE_plain a h3) (chkE_plain b h4), rfl⟩
    · cases h
  | zipT a b =>
    unfold chkIt at h
    split at h
    · rename_i n y z hc
      obtain ⟨q0, pos, rfl⟩ := asCall_inv hc
      obtain ⟨h, h4⟩ := and2 h
      obtain ⟨h1, h2, h3⟩ := and3 h
      obtain ⟨ts, k, tp, rfl⟩ : ∃ ts k tp, tx = .Tuple ts k tp := tup_tg hns (by intro i e; subst e; cases h0)
      exact ⟨i_zipT g (E_ok a y W X g hN h3).1 (E_ok b z W X g hN h4).1 (of_decide_eq_true h1) h2 (chkE_plain a h3) (chkE_plain b h4), rfl⟩
    · cases h
end
end
end Tr

/-! The names of a body: whose cells, and how they change. -/
namespace Tr
open PySem PySem.Spec PyProof.Rows L2

section
variable {p : Pm} {H H' : Hp} {av av' : Addr → Prop} {pos pos' : Addr → List Nat → Prop}
theorem not_under {q q' : List Nat} {i j : Nat} (h : q ++ [j] <+: q') (n : i ≠ j) : ¬ q ++ [i] <+: q' := by
  rintro ⟨t, e⟩
  obtain ⟨t', e'⟩ := h
  rw [← e', List.append_assoc, List.append_assoc] at e
  have := List.append_cancel_left e
  simp at this
  exact n this.1
/-- the cell at a path, and what the tree is once it is changed -/
theorem Own.at {f : D → Res D} (hf : ∀ c c', f c = .ok c' → (∃ xs, c = .lst xs) ∨ ∃ kvs, c = .dic kvs) : ∀ (ks : List D) (k : Nat) (q : List Nat) (d : D) (v : V) (d' : D), ks.length < k → atPath f ks d = .ok d' → Own p H av pos k q d v →
    ∃ q' a c c', q <+: q' ∧ pos a q' ∧ Own p H av pos (k - ks.length) q' c (.ref a) ∧ f c = .ok c' ∧ (ks = [] → v = .ref a) ∧
      (∀ i xs, ks = [.int i] → d = .lst xs → ∃ b vs j, v = .ref b ∧ H b = some (.lst vs) ∧ vs.length = xs.length ∧ ixN xs.length i = some j ∧ vs[j]? = some (.ref a)) ∧
      ∀ (H2 : Hp) (av2 : Addr → Prop) (pos2 : Addr → List Nat → Prop), (∀ r, pos a r → r = q') → Keep (fun b => b = a) H H2 → av a → (∀ b, av2 b → av b ∨ H b = none) → (∀ b r, pos b r → pos2 b r) → Own p H2 av2 pos2 (k - ks.length) q' c' (.ref a) → Own p H2 av2 pos2 k q d' v
  | [], k, q, d, v, d', hk, hd, h => by
    have hd' : f d = .ok d' := hd
    have ex : ∃ a, v = .ref a ∧ pos a q := by
      cases k with
      | zero => cases hk
      | succ k =>
        rcases hf d d' hd' with ⟨xs, rfl⟩ | ⟨kvs, rfl⟩
        · obtain ⟨a, _, e, _, hp, _⟩ := h; exact ⟨a, e, hp⟩
        · obtain ⟨a, _, e, _, hp, _⟩ := h; exact ⟨a, e, hp⟩
    obtain ⟨a, rfl, hp⟩ := ex
    exact ⟨q, a, d, d', List.prefix_refl q, hp, h, hd', fun _ => rfl, fun i xs z => (by cases z), fun H2 av2 pos2 _ _ _ _ _ h2 => h2⟩
  | s :: ks, k, q, d, v, d', hk, hd, h => by
    cases k with
    | zero => cases hk
    | succ k =>
      unfold atPath at hd
      split at hd
      · rename_i heq; cases heq
      · rename_i i ks' xs heq
        cases heq
        cases hj : ixN xs.length i with
        | none => rw [hj] at hd; cases hd
        | some j =>
          rw [hj] at hd
          simp only at hd
          cases hx : xs[j]? with
          | none => rw [hx] at hd; cases hd
          | some x =>
            rw [hx] at hd
            simp only at hd
            obtain ⟨x', hx', hd⟩ := bind_inv hd
            cases hd
            obtain ⟨b, vs, rfl, hb, hp, hl, hc⟩ := h
            have hjl : j < xs.length := (List.getElem?_eq_some_iff.mp hx).1
            have ev : vs[j]? = some vs[j] := List.getElem?_eq_getElem (by omega)
            obtain ⟨q', a, c, c', p1, p2, p3, p4, p5, _, p6⟩ := Own.at hf ks k (q ++ [j]) x vs[j] x' (by simpa using hk) hx' (hc j x _ hx ev)
            have ek : k + 1 - (D.int i :: ks).length = k - ks.length := by simp
            refine ⟨q', a, c, c', (List.prefix_append q [j]).trans p1, p2, by rw [ek]; exact p3, p4, fun z => (by cases z), fun i' xs' z1 z2 => ?_, fun H2 av2 pos2 hfun kp ha w wp h2 => ?_⟩
            · cases z1; cases z2
              exact ⟨b, vs, j, rfl, hb, hl, hj, by rw [ev, p5 rfl]⟩
            · rw [ek] at h2
              have nb : b ≠ a := fun z => by
                have e := hfun q (z ▸ hp)
                rw [← e] at p1
                exact absurd p1.length_le (by simp)
              refine ⟨b, vs, rfl, kp.cell _ _ hb nb, wp b q hp, by rw [List.length_set]; exact hl, fun i2 d2 w2 e1 e2 => ?_⟩
              by_cases e : i2 = j
              · subst e
                rw [List.getElem?_set_self hjl] at e1
                cases e1
                rw [ev] at e2; cases e2
                exact p6 H2 av2 pos2 hfun kp ha w wp h2
              · rw [List.getElem?_set_ne (Ne.symm e)] at e1
                exact Own.keep kp ha w wp k _ _ _ (fun r h1 h2 => by rw [hfun r h1] at h2; exact not_under p1 e h2) (hc i2 d2 w2 e1 e2)
      · cases hd
end

/-! ### the names -/
/-- who holds a cell: a name, a place in its tree -/
abbrev Hold := Addr → Option (Nat × List Nat)
abbrev avO (H0 : Hp) (ow : Hold) : Avs := ⟨nobody, fun a => ow a ≠ none, fun a => ow a ≠ none ∨ H0 a ≠ none⟩
structure Eo (p : Pz) (H0 : Hp) (fl : Fls) (env : Env) (σ : L2.St) (ow : Hold) (H : Hp) : Prop where
  base : Same H0 H
  fresh : ∀ a, ow a ≠ none → H0 a = none ∧ H a ≠ none
  len : env.length = σ.length
  fln : fl.length = env.length
  fl9 : ∀ i, i < fl.length → 1 ≤ fl.getD i 0 ∧ fl.getD i 0 ≤ 9
  slot : ∀ (i : Nat) (d : D), env[i]? = some (some d) → ∃ v, σ[i]? = some (some v) ∧ Cl p H (fl.getD i 0) (avO H0 ow) (fun a r => ow a = some (i, r)) d v
  fz : ∀ i v, p.fz i = some v → σ[i]? = some (some v)
  fc : ∀ a o z, p.fc a = some (o, z) → H a = some o ∧ ow a = some z ∧ env.length ≤ z.1
/-- from one state to the next: what is not ours stays -/
structure Stp (ow : Hold) (H : Hp) (ow' : Hold) (H' : Hp) : Prop where
  keep : Keep (fun a => ow a ≠ none) H H'
  new : ∀ a, ow' a ≠ none → ow a ≠ none ∨ H a = none
theorem Stp.refl {ow : Hold} {H : Hp} : Stp ow H ow H := ⟨Keep.same fun _ _ e => e, fun a z => .inl z⟩
theorem Keep.none {av : Addr → Prop} {H H' : Hp} (k : Keep av H H') {a : Addr} (h : H' a = none) : H a = none ∨ av a := by
  cases e : H a with
  | none => exact .inl rfl
  | some o =>
    refine .inr (Classical.byContradiction fun n => ?_)
    rw [k.cell a o e n] at h; cases h
theorem Stp.trans {ow ow1 ow2 : Hold} {H H1 H2 : Hp} (a : Stp ow H ow1 H1) (b : Stp ow1 H1 ow2 H2) : Stp ow H ow2 H2 :=
  ⟨a.keep.trans b.keep a.new, fun x z => (b.new x z).elim (a.new x) fun z => (a.keep.none z).elim .inr .inl⟩
theorem Stp.same {ow : Hold} {H H' : Hp} (s : Same H H') : Stp ow H ow H' := ⟨Keep.same s, fun a z => .inl z⟩
theorem nn_some {α : Type} {o : Option α} {x : α} (h : o = some x) : o ≠ none := by rw [h]; intro z; cases z
section
variable {p : Pz} {H0 H H' : Hp} {fl fl' : Fls} {env : Env} {σ : L2.St} {ow : Hold}
theorem Eo.ok (h : Eo p H0 fl env σ ow H) : (avO H0 ow).Ok H := ⟨fun a z => z.elim, fun a z => .inl z, fun a z => z.elim (fun z => (h.fresh a z).2) fun z => same_nn h.base z⟩
theorem Eo.er (h : Eo p H0 fl env σ ow H) : Er p (avO H0 ow) fl env σ H :=
  ⟨h.ok, h.len, fun i d e => let ⟨v, e1, c⟩ := h.slot i d e; ⟨v, e1, _, fun a r _ z => z.elim, c⟩⟩
theorem Eo.same (s : Same H H') (h : Eo p H0 fl env σ ow H) : Eo p H0 fl env σ ow H' :=
  ⟨h.base.trans s, fun a z => ⟨(h.fresh a z).1, same_nn s (h.fresh a z).2⟩, h.len, h.fln, h.fl9, fun i d e => let ⟨v, e1, c⟩ := h.slot i d e; ⟨v, e1, Cl.same' s (fun a z => .inl z) (fun a z => .inl z) (fun a z => .inl z) (fun a r z _ => z) c⟩, h.fz, fun a o z e => ⟨s _ _ (h.fc a o z e).1, (h.fc a o z e).2⟩⟩
theorem getD_set {fl : Fls} {i j c : Nat} (hi : i < fl.length) : (fl.set i c).getD j 0 = if j = i then c else fl.getD j 0 := by
  rw [List.getD_eq_getElem?_getD, List.getD_eq_getElem?_getD]
  by_cases e : j = i
  · subst e; rw [List.getElem?_set_self hi, if_pos rfl]; rfl
  · rw [List.getElem?_set_ne (Ne.symm e), if_neg e]
/-- what is kept through steps -/
theorem Clo.step {n : Nat} {ow ow' : Hold} {d : D} {v : V} (hn : n = 1 ∨ n = 2 ∨ n = 9) (st : Stp ow H ow' H') (h : Clo p H n (avO H0 ow) d v) : Clo p H' n (avO H0 ow') d v := by
  refine ⟨?_, h.2⟩
  rcases hn with rfl | rfl | rfl
  · exact Rep.keep st.keep st.new d h.1
  · exact Rep.keep (st.keep.mono fun a z => Or.inl z) (fun a z => z.elim (fun z => (st.new a z).elim (fun z => .inl (.inl z)) .inr) fun z => .inl (.inr z)) d h.1
  · exact Rep.pure d (h.2 rfl) (Rep.keep (av' := nobody) st.keep (fun a z => z.elim) d (Rep.pure d (h.2 rfl) h.1))
/-- a name is given a value that stands elsewhere -/
theorem Eo.put {i c : Nat} {d : D} {v : V} (h : Eo p H0 fl env σ ow H) (hc : c = 1 ∨ c = 2 ∨ c = 9) (hi : i < fl.length) (hz : p.fz i = none) (k : Clo p H c (avO H0 ow) d v) : Eo p H0 (fl.set i c) (env.set i (some d)) (σ.set i (some v)) ow H := by
  have hl := h.len
  have hf := h.fln
  refine ⟨h.base, h.fresh, by simp [hl], by simp [hf], fun j hj => ?_, fun j e he => ?_, fun j w e => (by rw [List.getElem?_set_ne (fun z => by rw [← z, hz] at e; cases e)]; exact h.fz j w e), fun a o z e => (by rw [List.length_set]; exact h.fc a o z e)⟩
  · rw [getD_set hi]
    split
    · omega
    · exact h.fl9 j (by simpa using hj)
  · rw [getD_set hi]
    by_cases z : j = i
    · subst z
      rw [List.getElem?_set_self (by omega)] at he
      cases he
      rw [List.getElem?_set_self (by omega), if_pos rfl]
      refine ⟨v, rfl, ?_⟩
      rcases hc with rfl | rfl | rfl
      · exact k.1
      · exact k.1
      · exact ⟨k.2 rfl, k.1⟩
    · rw [List.getElem?_set_ne (Ne.symm z)] at he
      rw [List.getElem?_set_ne (Ne.symm z), if_neg z]
      exact h.slot j e he
/-- a name is given a value -/
theorem Eo.asg {i c : Nat} {d : D} {v : V} (h : Eo p H0 fl env σ ow H) (s : Same H H') (hc0 : c ≠ 0) (hc : c ≤ 9) (hi : i < fl.length) (hz : p.fz i = none) (k : Val p c (avO H0 ow) H H' d v) :
    ∃ ow', Eo p H0 (fl.set i c) (env.set i (some d)) (σ.set i (some v)) ow' H' ∧ Stp ow H ow' H' := by
  by_cases h3 : c = 1 ∨ c = 2 ∨ c = 9
  · exact ⟨ow, (h.same s).put h3 hi hz (k.clo (Nat.le_refl c) hc (by omega) h.ok), .same s⟩
  obtain ⟨tn, f, k⟩ := k
  have hl := h.len
  have hf := h.fln
  have e9 : c ≠ 9 := fun z => h3 (.inr (.inr z))
  have e1 : c ≠ 1 := fun z => h3 (.inl z)
  let ow' : Hold := fun a => match tn a with | some r => some (i, r) | none => ow a
  have o1 : ∀ {a r}, tn a = some r → ow' a = some (i, r) := fun {a r} z => by show (match tn a with | some r => some (i, r) | none => ow a) = _; rw [z]
  have o0 : ∀ {a}, tn a = none → ow' a = ow a := fun {a} z => by show (match tn a with | some r => some (i, r) | none => ow a) = _; rw [z]
  have oo : ∀ a, ow' a ≠ none → ow a ≠ none ∨ tn a ≠ none := fun a z => by
    cases e : tn a with
    | some r => exact .inr (by intro q; cases q)
    | none => rw [o0 e] at z; exact .inl z
  refine ⟨ow', ⟨h.base.trans s, fun a z => ?_, by simp [hl], by simp [hf], fun j hj => ?_, fun j e he => ?_, fun j w e => (by rw [List.getElem?_set_ne (fun z => by rw [← z, hz] at e; cases e)]; exact h.fz j w e), fun a o z e => ?_⟩, ⟨Keep.same s, fun a z => (oo a z).imp id fun z => (f a z).1⟩⟩
  rotate_left 3
  · obtain ⟨g1, g2, g3⟩ := h.fc a o z e
    have : tn a = none := by
      cases q : tn a with
      | none => rfl
      | some r => have := (f a (nn_of q)).1; rw [g1] at this; cases this
    rw [List.length_set]
    exact ⟨s _ _ g1, by rw [o0 this]; exact g2, g3⟩
  · rcases oo a z with z | z
    · exact ⟨(h.fresh a z).1, same_nn s (h.fresh a z).2⟩
    · exact ⟨free_of h.base (f a z).1, (f a z).2⟩
  · rw [getD_set hi]
    split
    · omega
    · exact h.fl9 j (by simpa using hj)
  · rw [getD_set hi]
    by_cases z : j = i
    · subst z
      rw [List.getElem?_set_self (by omega)] at he
      cases he
      rw [List.getElem?_set_self (by omega), if_pos rfl]
      refine ⟨v, rfl, ?_⟩
      unfold Cl at k ⊢
      rw [if_neg e9, if_neg hc0, if_neg e1] at k ⊢
      refine Own.same _ _ d v (fun _ _ e => e) (fun a z => .inl ?_) (fun a r z _ => o1 z) k
      rcases z with z | z
      · rcases oo a z with z | z
        · exact .inl (.inl z)
        · exact .inr z
      · exact .inl (.inr z)
    · rw [List.getElem?_set_ne (Ne.symm z)] at he
      rw [List.getElem?_set_ne (Ne.symm z), if_neg z]
      obtain ⟨w, ew, cw⟩ := h.slot j e he
      refine ⟨w, ew, Cl.same' s (fun a z => z.elim) (fun a z => (oo a z).imp id fun z => (f a z).1) (fun a z => ?_) (fun a r z nz => ?_) cw⟩
      · rcases z with z | z
        · exact (oo a z).elim (fun z => .inl (.inl z)) fun z => .inr (f a z).1
        · exact .inl (.inr z)
      · have : tn a = none := by
          cases e : tn a with
          | none => rfl
          | some r => exact absurd (f a (nn_of e)).1 nz
        rw [o0 this]; exact z
/-- a name's value goes to another name -/
theorem Eo.mov {i j : Nat} {d : D} {v : V} (h : Eo p H0 fl env σ ow H) (hij : i ≠ j) (hi : i < fl.length) (hj : j < fl.length) (hz : p.fz i = none) (ed : env[j]? = some (some d)) (ev : σ[j]? = some (some v)) :
    ∃ ow', Eo p H0 ((fl.set j 1).set i (fl.getD j 0)) ((env.set j none).set i (some d)) (σ.set i (some v)) ow' H ∧ Stp ow H ow' H := by
  have hl := h.len
  have hf := h.fln
  let ow' : Hold := fun a => match ow a with | some (k, r) => if k = j then some (i, r) else if k = i then none else some (k, r) | none => none
  have oj : ∀ {a r}, ow a = some (j, r) → ow' a = some (i, r) := fun {a r} z => by
    show (match ow a with | some (k, r) => if k = j then some (i, r) else if k = i then none else some (k, r) | none => none) = _
    rw [z]; simp
  have ok : ∀ {a k r}, k ≠ j → k ≠ i → ow a = some (k, r) → ow' a = some (k, r) := fun {a k r} n1 n2 z => by
    show (match ow a with | some (k, r) => if k = j then some (i, r) else if k = i then none else some (k, r) | none => none) = _
    rw [z]; simp [n1, n2]
  have oo : ∀ a, ow' a ≠ none → ow a ≠ none := fun a z e => by
    apply z
    show (match ow a with | some (k, r) => if k = j then some (i, r) else if k = i then none else some (k, r) | none => none) = _
    rw [e]
  have a1 : ∀ a, ow' a ≠ none ∨ H0 a ≠ none → ow a ≠ none ∨ H0 a ≠ none := fun a z => z.imp (oo a) id
  have hg : ∀ k, ((fl.set j 1).set i (fl.getD j 0)).getD k 0 = if k = i then fl.getD j 0 else if k = j then 1 else fl.getD k 0 := fun k => by
    rw [getD_set (by simpa using hi), getD_set hj]
  refine ⟨ow', ⟨h.base, fun a z => h.fresh a (oo a z), by simp [hl], by simp [hf], fun k hk => ?_, fun k e he => ?_, fun k w e => (by rw [List.getElem?_set_ne (fun z => by rw [← z, hz] at e; cases e)]; exact h.fz k w e), fun a o z e => ?_⟩, ⟨Keep.same fun _ _ e => e, fun a z => .inl (oo a z)⟩⟩
  rotate_left 2
  · obtain ⟨g1, g2, g3⟩ := h.fc a o z e
    rw [List.length_set, List.length_set]
    exact ⟨g1, ok (by omega) (by omega) g2, g3⟩
  · rw [hg]
    split
    · exact h.fl9 j hj
    · split
      · omega
      · exact h.fl9 k (by simpa using hk)
  · rw [hg]
    by_cases z : k = i
    · subst z
      rw [List.getElem?_set_self (by rw [List.length_set]; omega)] at he
      cases he
      rw [List.getElem?_set_self (by omega), if_pos rfl]
      obtain ⟨w, ew, cw⟩ := h.slot j d ed
      rw [ev] at ew
      cases ew
      exact ⟨v, rfl, Cl.same' (fun _ _ e => e) (fun a z => z.elim) (fun a z => .inl (oo a z)) (fun a z => .inl (a1 a z)) (fun a r z _ => oj z) cw⟩
    · rw [List.getElem?_set_ne (Ne.symm z)] at he
      rw [List.getElem?_set_ne (Ne.symm z), if_neg z]
      by_cases y : k = j
      · subst y
        rw [List.getElem?_set_self (by omega)] at he
        cases he
      · rw [List.getElem?_set_ne (Ne.symm y)] at he
        rw [if_neg y]
        obtain ⟨w, ew, cw⟩ := h.slot k e he
        exact ⟨w, ew, Cl.same' (fun _ _ e => e) (fun a z => z.elim) (fun a z => .inl (oo a z)) (fun a z => .inl (a1 a z)) (fun a r q _ => ok y z q) cw⟩
/-- less is claimed of the names -/
theorem Eo.weak (h : Eo p H0 fl env σ ow H) (hl : fl'.length = fl.length) (hle : ∀ i, i < fl.length → 1 ≤ fl'.getD i 0 ∧ fl'.getD i 0 ≤ fl.getD i 0) : ∃ ow', Eo p H0 fl' env σ ow' H ∧ Stp ow H ow' H := by
  let ow' : Hold := fun a => match ow a with | some (i, r) => if fl.length ≤ i ∨ r.length < fl'.getD i 0 - 2 then some (i, r) else none | none => none
  have o1 : ∀ {a i r}, ow a = some (i, r) → ow' a = if fl.length ≤ i ∨ r.length < fl'.getD i 0 - 2 then some (i, r) else none := fun {a i r} z => by
    show (match ow a with | some (i, r) => if fl.length ≤ i ∨ r.length < fl'.getD i 0 - 2 then some (i, r) else none | none => none) = _
    rw [z]
  have oo : ∀ a, ow' a ≠ none → ow a ≠ none := fun a z e => z (by show (match ow a with | some (i, r) => if fl.length ≤ i ∨ r.length < fl'.getD i 0 - 2 then some (i, r) else none | none => none) = _; rw [e])
  refine ⟨ow', ⟨h.base, fun a z => h.fresh a (oo a z), h.len, by rw [hl]; exact h.fln, fun i hi => ?_, fun i d e => ?_, h.fz, fun a o z e => ?_⟩, ⟨Keep.same fun _ _ e => e, fun a z => .inl (oo a z)⟩⟩
  rotate_left 2
  · obtain ⟨g1, g2, g3⟩ := h.fc a o z e
    exact ⟨g1, by rw [o1 g2, if_pos (.inl (by rw [h.fln]; exact g3))], g3⟩
  · rw [hl] at hi
    have h1 := hle i hi
    have h2 := h.fl9 i hi
    omega
  · obtain ⟨v, ev, c⟩ := h.slot i d e
    refine ⟨v, ev, ?_⟩
    have hi : i < fl.length := by rw [h.fln]; exact (List.getElem?_eq_some_iff.mp e).1
    have h1 := hle i hi
    have h2 := h.fl9 i hi
    have f0 : ∀ a r, ow a = some (i, r) → H0 a = none := fun a r z => (h.fresh a (nn_some z)).1
    have drop : ∀ a r, ow a = some (i, r) → fl'.getD i 0 - 2 ≤ r.length → ¬ (ow' a ≠ none) := fun a r z l q => q (by rw [o1 z]; exact if_neg (by omega))
    unfold Cl at c ⊢
    by_cases c9 : fl.getD i 0 = 9
    · rw [if_pos c9] at c
      split
      · exact c
      · split
        · exact c.2
        · split
          · exact Rep.pure d c.1 c.2
          · exact own_pure _ _ d v c.1 c.2
    · rw [if_neg c9] at c
      rw [if_neg (by omega), if_neg (by omega)]
      rw [if_neg (by omega)] at c
      by_cases m1 : fl'.getD i 0 = 1
      · rw [if_pos m1]
        by_cases c1 : fl.getD i 0 = 1
        · rw [if_pos c1] at c
          exact c.weak fun a z => .inl (oo a z)
        · rw [if_neg c1] at c
          exact Own.rep _ _ d v (fun _ _ e => e) (fun a z => .inl (.inl (oo a z))) (fun a r z _ => drop a r z (by omega)) c
      · rw [if_neg m1]
        rw [if_neg (by omega)] at c
        refine Own.weak _ _ _ d v (by omega) (fun _ _ e => e) (fun a z => .inl (z.imp (oo a) id)) (fun a r z l => ?_) (fun a r z l z' => ?_) c
        · rw [o1 z]; exact if_pos (.inr (by simpa using l))
        · rcases z' with z' | z'
          · exact drop a r z (by simpa using l) z'
          · exact z' (f0 a r z)
/-- the cell that a change writes; what the change leaves -/
theorem Eo.locate {f : D → Res D} (hf : ∀ c c', f c = .ok c' → (∃ xs, c = .lst xs) ∨ ∃ kvs, c = .dic kvs) {x : Nat} {ks : List D} {d0 d1 : D} (h : Eo p H0 fl env σ ow H) (hx : env[x]? = some (some d0)) (hd : atPath f ks d0 = .ok d1)
    (hn : ks.length + 3 ≤ fl.getD x 0) (h9 : fl.getD x 0 ≠ 9) :
    ∃ q a c c' v, σ[x]? = some (some v) ∧ ow a = some (x, q) ∧ H a ≠ none ∧ Own p H (avO H0 ow).a2 (fun b r => ow b = some (x, r)) (fl.getD x 0 - 2 - ks.length) q c (.ref a) ∧ f c = .ok c' ∧ (ks = [] → v = .ref a) ∧
      (∀ i xs, ks = [.int i] → d0 = .lst xs → ∃ b vs j, v = .ref b ∧ H b = some (.lst vs) ∧ vs.length = xs.length ∧ ixN xs.length i = some j ∧ vs[j]? = some (.ref a)) ∧
      ∀ (H3 : Hp) (ow3 : Hold), Keep (fun b => b = a) H H3 → (∀ b, ow3 b ≠ none → ow b ≠ none ∨ H b = none) → (∀ b z, ow b = some z → ow3 b = some z) → (∀ b, ow3 b ≠ none → H0 b = none ∧ H3 b ≠ none) →
        Own p H3 (avO H0 ow3).a2 (fun b r => ow3 b = some (x, r)) (fl.getD x 0 - 2 - ks.length) q c' (.ref a) → Eo p H0 fl (env.set x (some d1)) σ ow3 H3 ∧ Stp ow H ow3 H3 := by
  obtain ⟨v, ev, cl⟩ := h.slot x d0 hx
  have hi : x < env.length := (List.getElem?_eq_some_iff.mp hx).1
  unfold Cl at cl
  rw [if_neg h9, if_neg (by omega), if_neg (by omega)] at cl
  obtain ⟨q, a, c, c', p1, p2, p3, p4, p5, p6, p7⟩ := Own.at hf ks _ _ _ _ _ (by omega) hd cl
  refine ⟨q, a, c, c', v, ev, p2, (h.fresh a (nn_some p2)).2, p3, p4, p5, p6, fun H3 ow3 kp w wo fr h3 => ?_⟩
  have ha0 : H0 a = none := (h.fresh a (nn_some p2)).1
  have av2 : ∀ b, (avO H0 ow3).a2 b → (avO H0 ow).a2 b ∨ H b = none := fun b z => z.elim (fun z => (w b z).imp .inl id) fun z => .inl (.inr z)
  refine ⟨⟨fun b o e => kp.cell b o (h.base b o e) fun z => (by rw [z, ha0] at e; cases e), fr, (by rw [List.length_set]; exact h.len), (by rw [List.length_set]; exact h.fln), h.fl9, fun j e he => ?_, h.fz, fun b o z e => (let ⟨g1, g2, g3⟩ := h.fc b o z e; ⟨kp.cell b o g1 fun y => (by rw [y, p2] at g2; cases g2; exact absurd g3 (by omega)), wo b z g2, by rw [List.length_set]; exact g3⟩)⟩, kp.mono fun b z => (by rw [z]; exact nn_some p2), w⟩
  by_cases z : j = x
  · subst z
    rw [List.getElem?_set_self hi] at he
    cases he
    refine ⟨v, ev, ?_⟩
    unfold Cl
    rw [if_neg h9, if_neg (by omega), if_neg (by omega)]
    refine p7 H3 _ _ (fun r hr => ?_) kp (.inl (nn_some p2)) av2 (fun b r hr => wo b _ hr) h3
    rw [p2] at hr
    simpa using hr.symm
  · rw [List.getElem?_set_ne (Ne.symm z)] at he
    obtain ⟨u, eu, cu⟩ := h.slot j e he
    refine ⟨u, eu, ?_⟩
    have hj : j < fl.length := by rw [h.fln]; exact (List.getElem?_eq_some_iff.mp he).1
    have h1 := (h.fl9 j hj).1
    unfold Cl at cu ⊢
    split
    · rename_i e9
      rw [if_pos e9] at cu
      exact ⟨cu.1, Rep.pure _ cu.1 (Rep.keep (av' := nobody) kp (fun b z => z.elim) _ (Rep.pure _ cu.1 cu.2))⟩
    · rename_i e9
      rw [if_neg e9, if_neg (by omega)] at cu
      rw [if_neg (by omega)]
      split
      · rename_i e1
        rw [if_pos e1] at cu
        exact Rep.keep (kp.mono fun b z => by rw [z]; exact nn_some p2) w _ cu
      · rename_i e1
        rw [if_neg e1] at cu
        refine Own.keep kp (.inl (nn_some p2)) av2 (fun b r hr => wo b _ hr) _ _ _ _ (fun r hr => ?_) cu
        rw [p2] at hr
        cases hr
        exact absurd rfl z
/-- with a value stored at a place -/
def own3 (ow : Hold) (x : Nat) (q : List Nat) (tn : Plc) : Hold := fun b => match tn b with | some r => some (x, q ++ r) | none => ow b
theorem own3_in {x : Nat} {q r : List Nat} {tn : Plc} {b : Addr} (h : tn b = some r) : own3 ow x q tn b = some (x, q ++ r) := by unfold own3; rw [h]
theorem own3_out {x : Nat} {q : List Nat} {tn : Plc} {b : Addr} (h : tn b = none) : own3 ow x q tn b = ow b := by unfold own3; rw [h]
theorem own3_nn {x : Nat} {q : List Nat} {tn : Plc} {b : Addr} (h : own3 ow x q tn b ≠ none) : ow b ≠ none ∨ tn b ≠ none := by
  cases e : tn b with
  | some r => exact .inr (by intro q; cases q)
  | none => rw [own3_out e] at h; exact .inl h
/-- what a stored value brings with it -/
structure Sto (p : Pm) (H0 : Hp) (ow : Hold) (x : Nat) (a : Addr) (q : List Nat) (k : Nat) (Ha H2 : Hp) (d : D) (v : V) (tn : Plc) : Prop where
  f : ∀ b, tn b ≠ none → Ha b = none ∧ H2 b ≠ none
  own : Own p H2 (fun b => (avO H0 ow).a2 b ∨ tn b ≠ none) (at_ tn) k [] d v
theorem Sto.of {x k c : Nat} {a : Addr} {q : List Nat} {d : D} {v : V} (ok : (avO H0 ow).Ok H) (hk : k + 2 ≤ c) (h7 : k + 2 < 9) (hc : c ≤ 9) (val : Val p c (avO H0 ow) H H' d v) : ∃ tn, Sto p H0 ow x a q k H H' d v tn := by
  obtain ⟨tn, f, cl⟩ := Val.weak hk hc ok val
  unfold Cl at cl
  rw [if_neg (by omega), if_neg (by omega), if_neg (by omega)] at cl
  exact ⟨tn, f, cl⟩
theorem Sto.child {x k j : Nat} {a : Addr} {q : List Nat} {H2 H3 : Hp} {d : D} {v : V} {tn : Plc} (h : Sto p H0 ow x a q k H H2 d v tn) (ha : ow a = some (x, q)) (hH : H a ≠ none) (kp : Keep (fun b => b = a) H2 H3) :
    Own p H3 (avO H0 (own3 ow x (q ++ [j]) tn)).a2 (fun b r => own3 ow x (q ++ [j]) tn b = some (x, r)) k (q ++ [j]) d v := by
  have ta : tn a = none := by
    cases e : tn a with
    | none => rfl
    | some r => exact absurd (h.f a (nn_of e)).1 hH
  have h1 := Own.shift (pos' := fun b r => own3 ow x (q ++ [j]) tn b = some (x, r)) (q ++ [j]) k [] d v (fun b r z => own3_in z) h.own
  rw [List.append_nil] at h1
  refine Own.keep (a := a) kp (.inl (.inl (nn_some ha))) (fun b z => .inl ?_) (fun b r z => z) k _ d v (fun r hr hp => ?_) h1
  · rcases z with z | z
    · exact (own3_nn z).imp .inl id
    · exact .inl (.inr z)
  · rw [own3_out ta, ha] at hr
    cases hr
    exact absurd hp.length_le (by simp)
theorem Sto.wo {x k : Nat} {a : Addr} {q : List Nat} {H2 : Hp} {d : D} {v : V} {tn : Plc} (h : Sto p H0 ow x a q k H H2 d v tn) (fr : ∀ b, ow b ≠ none → H b ≠ none) {q' : List Nat} : ∀ b z, ow b = some z → own3 ow x q' tn b = some z := fun b z e => by
  have : tn b = none := by
    cases e2 : tn b with
    | none => rfl
    | some r => exact absurd (h.f b (nn_of e2)).1 (fr b (nn_some e))
  rw [own3_out this]; exact e
theorem Sto.old {x k j i : Nat} {a : Addr} {q : List Nat} {H2 H3 : Hp} {d e : D} {v u : V} {tn : Plc} (h : Sto p H0 ow x a q k H H2 d v tn) (fr : ∀ b, ow b ≠ none → H b ≠ none) (ha : ow a = some (x, q)) (kp : Keep (fun b => b = a) H H3) (ho : Own p H (avO H0 ow).a2 (fun b r => ow b = some (x, r)) k (q ++ [i]) e u) :
    Own p H3 (avO H0 (own3 ow x (q ++ [j]) tn)).a2 (fun b r => own3 ow x (q ++ [j]) tn b = some (x, r)) k (q ++ [i]) e u := by
  refine Own.keep kp (.inl (nn_some ha)) (fun b z => ?_) (fun b r z => Sto.wo h fr b _ z) k _ e u (fun r hr hp => ?_) ho
  · rcases z with z | z
    · exact (own3_nn z).elim (fun z => .inl (.inl z)) fun z => .inr (h.f b z).1
    · exact .inl (.inr z)
  · rw [ha] at hr
    cases hr
    exact absurd hp.length_le (by simp)
end
end Tr

/-! Changes in place. -/
namespace Tr
open PySem PySem.Spec PyProof.Rows L2
section
variable {p : Pz} {H0 H H' : Hp} {fl fl' : Fls} {env : Env} {σ : L2.St} {ow : Hold}
/-- the way to the cell that is written -/
def Way (σ : L2.St) (H : Hp) (x : Nat) (ks : List D) (d0 : D) (a : Addr) : Prop := ∃ v, σ[x]? = some (some v) ∧ (ks = [] → v = .ref a) ∧
  (∀ i xs, ks = [.int i] → d0 = .lst xs → ∃ b vs j, v = .ref b ∧ H b = some (.lst vs) ∧ vs.length = xs.length ∧ ixN xs.length i = some j ∧ vs[j]? = some (.ref a))
theorem appD_inv {d c c' : D} (h : appD d c = .ok c') : ∃ xs, c = .lst xs ∧ xs.length < line ∧ c' = .lst (xs ++ [d]) := by
  cases c with
  | lst xs =>
    have h' : (if xs.length < line then Res.ok (D.lst (xs ++ [d])) else .stuck) = Res.ok c' := h
    by_cases z : xs.length < line
    · rw [if_pos z] at h'; cases h'; exact ⟨xs, rfl, z, rfl⟩
    · rw [if_neg z] at h'; cases h'
  | _ => cases h
theorem setD_inv {i d c c' : D} (h : setD i d c = .ok c') : ∃ xs k j, i = .int k ∧ c = .lst xs ∧ ixN xs.length k = some j ∧ c' = .lst (xs.set j d) := by
  cases c with
  | lst xs =>
    cases i with
    | int k =>
      cases hj : ixN xs.length k with
      | none => simp [setD, hj] at h
      | some j => simp [setD, hj] at h; exact ⟨xs, k, j, rfl, rfl, hj, h.symm⟩
    | _ => cases h
  | _ => cases h
theorem dputD_inv {k d c c' : D} (h : dputD k d c = .ok c') : ∃ kvs ks, c = .dic kvs ∧ keyD k = some ks ∧ kvs.length < line ∧ c' = .dic (putD kvs ks d) := by
  cases c with
  | dic kvs =>
    cases hj : keyD k with
    | none => simp [dputD, hj] at h
    | some ks =>
      by_cases z : kvs.length < line
      · simp [dputD, hj, z] at h; exact ⟨kvs, ks, rfl, rfl, z, h.symm⟩
      · simp [dputD, hj, z] at h
  | _ => cases h
theorem clrD_inv {c c' : D} (h : clrD c = .ok c') : ∃ xs, c = .lst xs ∧ c' = .lst [] := by
  cases c with
  | lst xs => cases h; exact ⟨xs, rfl, rfl⟩
  | _ => cases h
theorem appD_sh (d : D) : ∀ c c', appD d c = .ok c' → (∃ xs, c = .lst xs) ∨ ∃ kvs, c = .dic kvs := fun c c' h => let ⟨xs, e, _⟩ := appD_inv h; .inl ⟨xs, e⟩
theorem setD_sh (i d : D) : ∀ c c', setD i d c = .ok c' → (∃ xs, c = .lst xs) ∨ ∃ kvs, c = .dic kvs := fun c c' h => let ⟨xs, _, _, _, e, _⟩ := setD_inv h; .inl ⟨xs, e⟩
theorem dputD_sh (i d : D) : ∀ c c', dputD i d c = .ok c' → (∃ xs, c = .lst xs) ∨ ∃ kvs, c = .dic kvs := fun c c' h => let ⟨xs, _, e, _⟩ := dputD_inv h; .inr ⟨xs, e⟩
theorem clrD_sh : ∀ c c', clrD c = .ok c' → (∃ xs, c = .lst xs) ∨ ∃ kvs, c = .dic kvs := fun c c' h => let ⟨xs, e, _⟩ := clrD_inv h; .inl ⟨xs, e⟩
theorem keep_up {H H2 : Hp} {a : Addr} {o o' : HO} (s : Same H H2) (h : H a = some o) (hm : (∃ xs, o = .lst xs) ∨ ∃ ws, o = .dT ws) : Keep (fun b => b = a) H (upd H2 a o') :=
  (Keep.same (av := fun b => b = a) s).trans (keep_a (s _ _ h) hm) fun b z => .inl z
theorem fresh3 {x k : Nat} {a : Addr} {q q' : List Nat} {H2 : Hp} {d : D} {v : V} {tn : Plc} {o : HO} (h : Eo p H0 fl env σ ow H) (st : Sto p H0 ow x a q k H H2 d v tn) (s : Same H H2) : ∀ b, own3 ow x q' tn b ≠ none → H0 b = none ∧ upd H2 a o b ≠ none := fun b z => by
  have : H0 b = none ∧ H2 b ≠ none := by
    rcases own3_nn z with z | z
    · exact ⟨(h.fresh b z).1, same_nn s (h.fresh b z).2⟩
    · exact ⟨free_of h.base (st.f b z).1, (st.f b z).2⟩
  refine ⟨this.1, ?_⟩
  by_cases e : b = a
  · subst e; rw [upd_same]; intro z; cases z
  · rw [upd_ne e]; exact this.2
/-- one value more -/
theorem Eo.app {x c : Nat} {ks : List D} {d0 d1 d : D} (h : Eo p H0 fl env σ ow H) (hx : env[x]? = some (some d0)) (hd : atPath (appD d) ks d0 = .ok d1) (hn : ks.length + 3 ≤ fl.getD x 0) (h9 : fl.getD x 0 ≠ 9)
    (hc : fl.getD x 0 ≤ ks.length + 1 + c) (hc9 : c ≤ 9) : ∃ a vs, Way σ H x ks d0 a ∧ H a = some (.lst vs) ∧ vs.length < line ∧
      ∀ (H2 : Hp) (u : V), Same H H2 → Val p c (avO H0 ow) H H2 d u → ∃ ow3, Eo p H0 fl (env.set x (some d1)) σ ow3 (upd H2 a (.lst (vs ++ [u]))) ∧ Stp ow H ow3 (upd H2 a (.lst (vs ++ [u]))) := by
  have f9 : fl.getD x 0 ≤ 9 := (h.fl9 x (by rw [h.fln]; exact (List.getElem?_eq_some_iff.mp hx).1)).2
  obtain ⟨q, a, c1, c', v, e1, e2, e3, e4, e5, e6, e7, fin⟩ := h.locate (appD_sh d) hx hd hn h9
  obtain ⟨xs, rfl, hl, rfl⟩ := appD_inv e5
  obtain ⟨k, hk⟩ : ∃ k, fl.getD x 0 - 2 - ks.length = k + 1 := ⟨fl.getD x 0 - 3 - ks.length, by omega⟩
  rw [hk] at e4 fin
  obtain ⟨a', vs, ea, ha, hp, hlen, hch⟩ := e4
  cases ea
  refine ⟨a, vs, ⟨v, e1, e6, e7⟩, ha, by omega, fun H2 u s val => ?_⟩
  obtain ⟨tn, st⟩ := Sto.of (x := x) (a := a) (q := q) (k := k) h.ok (by omega) (by omega) hc9 val
  have kp : Keep (fun b => b = a) H (upd H2 a (.lst (vs ++ [u]))) := keep_up s ha (.inl ⟨_, rfl⟩)
  have kp2 : Keep (fun b => b = a) H2 (upd H2 a (.lst (vs ++ [u]))) := keep_a (s _ _ ha) (.inl ⟨_, rfl⟩)
  have fr : ∀ b, ow b ≠ none → H b ≠ none := fun b z => (h.fresh b z).2
  refine ⟨own3 ow x (q ++ [xs.length]) tn, fin _ _ kp (fun b z => (own3_nn z).imp id fun z => (st.f b z).1) (st.wo fr) (fresh3 h st s) ?_⟩
  refine ⟨a, vs ++ [u], rfl, upd_same, st.wo fr _ _ hp, by simp [hlen], fun j e w e1 e2 => ?_⟩
  by_cases hj : j < xs.length
  · rw [List.getElem?_append_left hj] at e1
    rw [List.getElem?_append_left (by omega)] at e2
    exact st.old fr hp kp (hch j e w e1 e2)
  · rw [List.getElem?_append_right (by omega)] at e1
    rw [List.getElem?_append_right (by omega)] at e2
    have ej : j = xs.length := by
      have := (List.getElem?_eq_some_iff.mp e1).1
      simp at this
      omega
    subst ej
    rw [Nat.sub_self] at e1
    rw [hlen, Nat.sub_self] at e2
    cases e1; cases e2
    exact st.child hp e3 kp2
/-- another value at a place -/
theorem Eo.setAt {x c : Nat} {ks : List D} {i d0 d1 d : D} (h : Eo p H0 fl env σ ow H) (hx : env[x]? = some (some d0)) (hd : atPath (setD i d) ks d0 = .ok d1) (hn : ks.length + 3 ≤ fl.getD x 0) (h9 : fl.getD x 0 ≠ 9)
    (hc : fl.getD x 0 ≤ ks.length + 1 + c) (hc9 : c ≤ 9) : ∃ a vs k j, i = .int k ∧ Way σ H x ks d0 a ∧ H a = some (.lst vs) ∧ ixN vs.length k = some j ∧
      ∀ (H2 H3 : Hp) (u : V), Same H H2 → Same H2 H3 → Val p c (avO H0 ow) H H2 d u → ∃ ow3, Eo p H0 fl (env.set x (some d1)) σ ow3 (upd H3 a (.lst (vs.set j u))) ∧ Stp ow H ow3 (upd H3 a (.lst (vs.set j u))) := by
  have f9 : fl.getD x 0 ≤ 9 := (h.fl9 x (by rw [h.fln]; exact (List.getElem?_eq_some_iff.mp hx).1)).2
  obtain ⟨q, a, c1, c', v, e1, e2, e3, e4, e5, e6, e7, fin⟩ := h.locate (setD_sh i d) hx hd hn h9
  obtain ⟨xs, ki, j, rfl, rfl, hix, rfl⟩ := setD_inv e5
  obtain ⟨k, hk⟩ : ∃ k, fl.getD x 0 - 2 - ks.length = k + 1 := ⟨fl.getD x 0 - 3 - ks.length, by omega⟩
  rw [hk] at e4 fin
  obtain ⟨a', vs, ea, ha, hp, hlen, hch⟩ := e4
  cases ea
  refine ⟨a, vs, ki, j, rfl, ⟨v, e1, e6, e7⟩, ha, by rw [hlen]; exact hix, fun H2 H3 u s0 s3 val0 => ?_⟩
  have s := s0.trans s3
  have val := val0.same s3
  obtain ⟨tn, st⟩ := Sto.of (x := x) (a := a) (q := q) (k := k) h.ok (by omega) (by omega) hc9 val
  have kp : Keep (fun b => b = a) H (upd H3 a (.lst (vs.set j u))) := keep_up s ha (.inl ⟨_, rfl⟩)
  have kp2 : Keep (fun b => b = a) H3 (upd H3 a (.lst (vs.set j u))) := keep_a (s _ _ ha) (.inl ⟨_, rfl⟩)
  have fr : ∀ b, ow b ≠ none → H b ≠ none := fun b z => (h.fresh b z).2
  refine ⟨own3 ow x (q ++ [j]) tn, fin _ _ kp (fun b z => (own3_nn z).imp id fun z => (st.f b z).1) (st.wo fr) (fresh3 h st s) ?_⟩
  refine ⟨a, vs.set j u, rfl, upd_same, st.wo fr _ _ hp, by simp [hlen], fun j2 e w e1 e2 => ?_⟩
  by_cases hj : j2 = j
  · subst hj
    have b1 : j2 < xs.length := by
      have := (List.getElem?_eq_some_iff.mp e1).1
      simpa using this
    rw [List.getElem?_set_self b1] at e1
    rw [List.getElem?_set_self (by omega)] at e2
    cases e1; cases e2
    exact st.child hp e3 kp2
  · rw [List.getElem?_set_ne (Ne.symm hj)] at e1
    rw [List.getElem?_set_ne (Ne.symm hj)] at e2
    exact st.old fr hp kp (hch j2 e w e1 e2)
/-- nothing left -/
theorem Eo.clr {x : Nat} {ks : List D} {d0 d1 : D} (h : Eo p H0 fl env σ ow H) (hx : env[x]? = some (some d0)) (hd : atPath clrD ks d0 = .ok d1) (hn : ks.length + 3 ≤ fl.getD x 0) (h9 : fl.getD x 0 ≠ 9) :
    ∃ a vs, Way σ H x ks d0 a ∧ H a = some (.lst vs) ∧ ∀ H2, Same H H2 → ∃ ow3, Eo p H0 fl (env.set x (some d1)) σ ow3 (upd H2 a (.lst [])) ∧ Stp ow H ow3 (upd H2 a (.lst [])) := by
  obtain ⟨q, a, c1, c', v, e1, e2, e3, e4, e5, e6, e7, fin⟩ := h.locate clrD_sh hx hd hn h9
  obtain ⟨xs, rfl, rfl⟩ := clrD_inv e5
  obtain ⟨k, hk⟩ : ∃ k, fl.getD x 0 - 2 - ks.length = k + 1 := ⟨fl.getD x 0 - 3 - ks.length, by omega⟩
  rw [hk] at e4 fin
  obtain ⟨a', vs, ea, ha, hp, hlen, hch⟩ := e4
  cases ea
  refine ⟨a, vs, ⟨v, e1, e6, e7⟩, ha, fun H2 s => ⟨ow, fin _ _ (keep_up s ha (.inl ⟨_, rfl⟩)) (fun b z => .inl z) (fun b z e => e) (fun b z => ⟨(h.fresh b z).1, ?_⟩) ⟨a, [], rfl, upd_same, hp, rfl, fun j d w e1 e2 => by simp at e1⟩⟩⟩
  by_cases e : b = a
  · subst e; rw [upd_same]; intro z; cases z
  · rw [upd_ne e]; exact same_nn s (h.fresh b z).2
theorem insD_inv {i d c c' : D} (h : insD i d c = .ok c') : ∃ xs k, i = .int k ∧ c = .lst xs ∧ 0 ≤ k ∧ k < 2 ^ 62 ∧ xs.length < line ∧ c' = .lst (xs.take k.toNat ++ [d] ++ xs.drop k.toNat) := by
  cases c with
  | lst xs =>
    cases i with
    | int k =>
      have h' : (if 0 ≤ k ∧ k < 2 ^ 62 ∧ xs.length < line then Res.ok (D.lst (xs.take k.toNat ++ [d] ++ xs.drop k.toNat)) else .stuck) = Res.ok c' := h
      by_cases z : 0 ≤ k ∧ k < 2 ^ 62 ∧ xs.length < line
      · rw [if_pos z] at h'; cases h'; exact ⟨xs, k, rfl, rfl, z.1, z.2.1, z.2.2, rfl⟩
      · rw [if_neg z] at h'; cases h'
    | _ => cases h
  | _ => cases h
theorem popD_inv {i c c' : D} (h : popD i c = .ok c') : ∃ xs k j, i = .int k ∧ c = .lst xs ∧ ixN xs.length k = some j ∧ xs.length < line ∧ c' = .lst (xs.eraseIdx j) := by
  cases c with
  | lst xs =>
    cases i with
    | int k =>
      cases hj : ixN xs.length k with
      | none => simp [popD, hj] at h
      | some j =>
        by_cases z : xs.length < line
        · simp [popD, hj, z] at h; exact ⟨xs, k, j, rfl, rfl, hj, z, h.symm⟩
        · simp [popD, hj, z] at h
    | _ => cases h
  | _ => cases h
/-- a list of one layer is changed -/
theorem Eo.lch {f : D → Res D} {x : Nat} {ks : List D} {d0 d1 : D} (hf : ∀ c c', f c = .ok c' → ∃ xs, c = .lst xs) (h : Eo p H0 fl env σ ow H) (hx : env[x]? = some (some d0)) (hd : atPath f ks d0 = .ok d1) (hn : fl.getD x 0 = ks.length + 3) (h9 : fl.getD x 0 ≠ 9) :
    ∃ a xs vs c', f (.lst xs) = .ok c' ∧ Way σ H x ks d0 a ∧ H a = some (.lst vs) ∧ RepL p H (avO H0 ow).a2 xs vs ∧
      ∀ (H2 : Hp) (xs' : List D) (vs' : List V), c' = .lst xs' → Same H H2 → RepL p H2 (avO H0 ow).a2 xs' vs' → Eo p H0 fl (env.set x (some d1)) σ ow (upd H2 a (.lst vs')) ∧ Stp ow H ow (upd H2 a (.lst vs')) := by
  obtain ⟨q, a, c1, c', v, e1, e2, e3, e4, e5, e6, e7, fin⟩ := h.locate (fun c c' z => .inl (hf c c' z)) hx hd (by omega) h9
  obtain ⟨xs, rfl⟩ := hf _ _ e5
  have hk : fl.getD x 0 - 2 - ks.length = 0 + 1 := by omega
  rw [hk] at e4 fin
  obtain ⟨a', vs, ea, ha, hp, hlen, hch⟩ := e4
  cases ea
  refine ⟨a, xs, vs, c', e5, ⟨v, e1, e6, e7⟩, ha, RepL.of hlen fun j d w i1 i2 => hch j d w i1 i2, fun H2 xs' vs' ec s rl => ?_⟩
  subst ec
  have kp2 : Keep (fun b => b = a) H2 (upd H2 a (.lst vs')) := keep_a (s _ _ ha) (.inl ⟨_, rfl⟩)
  have rl2 : RepL p (upd H2 a (.lst vs')) (avO H0 ow).a2 xs' vs' := RepL.keep (kp2.mono fun b z => by rw [z]; exact .inl (nn_some hp)) (fun b z => .inl z) _ rl
  refine fin _ _ (keep_up s ha (.inl ⟨_, rfl⟩)) (fun b z => .inl z) (fun b z e => e) (fun b z => ⟨(h.fresh b z).1, ?_⟩) ⟨a, vs', rfl, upd_same, hp, rl2.length, fun j d w i1 i2 => ?_⟩
  · by_cases e : b = a
    · subst e; rw [upd_same]; intro z; cases z
    · rw [upd_ne e]; exact same_nn s (h.fresh b z).2
  · obtain ⟨w', g1, g2⟩ := rl2.get i1
    rw [i2] at g1; cases g1
    exact g2
theorem RepL.erase {p : Pm} {H : Hp} {av : Addr → Prop} : ∀ (n : Nat) {xs : List D} {vs : List V}, RepL p H av xs vs → RepL p H av (xs.eraseIdx n) (vs.eraseIdx n)
  | n, [], vs, h => by cases (show vs = [] from h); exact rfl
  | 0, d :: xs, vs, h => by
    obtain ⟨v, r, rfl, h1, h2⟩ := h
    exact h2
  | n + 1, d :: xs, vs, h => by
    obtain ⟨v, r, rfl, h1, h2⟩ := h
    exact ⟨v, _, rfl, h1, RepL.erase n h2⟩
/-- a dict's own pairs, pair by pair -/
theorem put_pairs {k : List Int} {d : D} {v : V} : ∀ {ds : List (List Int × D)} {ws : List (List Key × V)}, ws.length = ds.length → (∀ (j : Nat) (c : List Int) (e : D) (c' : List Key) (w : V), ds[j]? = some (c, e) → ws[j]? = some (c', w) → c' = c.map Sum.inl) →
    (putK ws (k.map Sum.inl) v).length = (putD ds k d).length ∧ ∃ jn, ∀ (j : Nat) (c : List Int) (e : D) (c' : List Key) (w : V), (putD ds k d)[j]? = some (c, e) → (putK ws (k.map Sum.inl) v)[j]? = some (c', w) →
      c' = c.map Sum.inl ∧ ((ds[j]? = some (c, e) ∧ ws[j]? = some (c', w)) ∨ (e = d ∧ w = v ∧ (jn = none ∨ jn = some j))) := by
  intro ds ws hl hk
  have hany : (ws.any fun kv => decide (kv.1 = k.map Sum.inl)) = ds.any fun kv => decide (kv.1 = k) := by
    induction ds generalizing ws with
    | nil => rw [List.length_eq_zero_iff.mp hl]; rfl
    | cons x ds ih =>
      cases ws with
      | nil => simp at hl
      | cons y ws =>
        obtain ⟨c, e⟩ := x
        obtain ⟨c', w⟩ := y
        have h0 := hk 0 c e c' w rfl rfl
        subst h0
        rw [List.any_cons, List.any_cons, ih (by simpa using hl) fun j a b a' b' h1 h2 => hk (j + 1) a b a' b' (by simpa using h1) (by simpa using h2)]
        congr 1
        by_cases z : c = k
        · subst z; simp
        · have : ¬ c.map (Sum.inl : Int → Key) = k.map Sum.inl := fun q => z (inl_inj q)
          rw [decide_eq_false this, decide_eq_false z]
  unfold putD putK
  rw [hany]
  split
  · refine ⟨by simp [hl], none, fun j c e c' w h1 h2 => ?_⟩
    rw [List.getElem?_map] at h1 h2
    cases hd : ds[j]? with
    | none => rw [hd] at h1; cases h1
    | some x =>
      cases hw : ws[j]? with
      | none => rw [hw] at h2; cases h2
      | some y =>
        rw [hd] at h1
        rw [hw] at h2
        obtain ⟨c0, e0⟩ := x
        obtain ⟨c1, w1⟩ := y
        have q := hk j c0 e0 c1 w1 hd hw
        subst q
        simp only [Option.map_some, Option.some.injEq] at h1 h2
        by_cases z : c0 = k
        · subst z
          rw [if_pos rfl] at h1 h2
          cases h1; cases h2
          exact ⟨rfl, .inr ⟨rfl, rfl, .inl rfl⟩⟩
        · rw [if_neg z] at h1
          rw [if_neg (fun q => z (inl_inj q))] at h2
          cases h1; cases h2
          exact ⟨rfl, .inl ⟨rfl, rfl⟩⟩
  · refine ⟨by simp [hl], none, fun j c e c' w h1 h2 => ?_⟩
    by_cases hj : j < ds.length
    · rw [List.getElem?_append_left hj] at h1
      rw [List.getElem?_append_left (by omega)] at h2
      exact ⟨hk j c e c' w h1 h2, .inl ⟨h1, h2⟩⟩
    · rw [List.getElem?_append_right (by omega)] at h1
      rw [List.getElem?_append_right (by omega)] at h2
      have ej : j = ds.length := by
        have := (List.getElem?_eq_some_iff.mp h1).1
        simp at this
        omega
      subst ej
      rw [Nat.sub_self] at h1
      rw [hl, Nat.sub_self] at h2
      cases h1; cases h2
      exact ⟨rfl, .inr ⟨rfl, rfl, .inl rfl⟩⟩
theorem Own.zero {p : Pm} {H : Hp} {av : Addr → Prop} {pos pos' : Addr → List Nat → Prop} {q q' : List Nat} {d : D} {v : V} (h : Own p H av pos 0 q d v) : Own p H av pos' 0 q' d v := h
/-- a pair more, or another value of a key -/
theorem Eo.dput {x c : Nat} {ks : List D} {i d0 d1 d : D} (h : Eo p H0 fl env σ ow H) (hx : env[x]? = some (some d0)) (hd : atPath (dputD i d) ks d0 = .ok d1) (hn : fl.getD x 0 = ks.length + 3) (h9 : fl.getD x 0 ≠ 9)
    (hc : fl.getD x 0 ≤ ks.length + 1 + c) (hc9 : c ≤ 9) : ∃ a ws kk, keyD i = some kk ∧ Way σ H x ks d0 a ∧ H a = some (.dT ws) ∧ ws.length < line ∧
      ∀ (H2 H3 : Hp) (u : V), Same H H2 → Same H2 H3 → Val p c (avO H0 ow) H H2 d u → ∃ ow3, Eo p H0 fl (env.set x (some d1)) σ ow3 (upd H3 a (.dT (putK ws (kk.map Sum.inl) u))) ∧ Stp ow H ow3 (upd H3 a (.dT (putK ws (kk.map Sum.inl) u))) := by
  obtain ⟨q, a, c1, c', v, e1, e2, e3, e4, e5, e6, e7, fin⟩ := h.locate (dputD_sh i d) hx hd (by omega) h9
  obtain ⟨kvs, kk, rfl, hk, hl, rfl⟩ := dputD_inv e5
  rw [show fl.getD x 0 - 2 - ks.length = 0 + 1 by omega] at e4 fin
  obtain ⟨a', ws, ea, ha, hp, hlen, hch⟩ := e4
  cases ea
  refine ⟨a, ws, kk, hk, ⟨v, e1, e6, e7⟩, ha, by omega, fun H2 H3 u s0 s3 val0 => ?_⟩
  have s := s0.trans s3
  have val := val0.same s3
  obtain ⟨tn, st⟩ := Sto.of (x := x) (a := a) (q := q) (k := 0) h.ok (by omega) (by omega) hc9 val
  have kp : Keep (fun b => b = a) H (upd H3 a (.dT (putK ws (kk.map Sum.inl) u))) := keep_up s ha (.inr ⟨_, rfl⟩)
  have kp2 : Keep (fun b => b = a) H3 (upd H3 a (.dT (putK ws (kk.map Sum.inl) u))) := keep_a (s _ _ ha) (.inr ⟨_, rfl⟩)
  have fr : ∀ b, ow b ≠ none → H b ≠ none := fun b z => (h.fresh b z).2
  obtain ⟨pl, jn, pr⟩ := put_pairs (k := kk) (d := d) (v := u) hlen fun j c e c' w e1 e2 => (hch j c e c' w e1 e2).1
  refine ⟨own3 ow x (q ++ [0]) tn, fin _ _ kp (fun b z => (own3_nn z).imp id fun z => (st.f b z).1) (st.wo fr) (fresh3 h st s) ?_⟩
  refine ⟨a, _, rfl, upd_same, st.wo fr _ _ hp, pl, fun j c e c' w e1 e2 => ?_⟩
  obtain ⟨q1, q2⟩ := pr j c e c' w e1 e2
  refine ⟨q1, ?_⟩
  rcases q2 with ⟨q2, q3⟩ | ⟨rfl, rfl, _⟩
  · exact st.old fr hp kp (hch j c e c' w q2 q3).2
  · exact Own.zero (st.child (j := 0) hp e3 kp2)
end
end Tr

/-! try: e / except C as n: suite, where the suite may keep the exception. -/
namespace Tr
open PySem PySem.Spec PyProof.Rows L2

/-- what the clause wishes of an exception of the body -/
def wHold (K : PySem.W.Frag) (c : Value) (i : Nat) (ts : TS) (D : Ends) : WX := fun cls d σ H => PySem.W.exmOne K cls c = some true ∧ ∀ a, H a = none → ts { nx := fun σ' H' => D.nx (σ'.set i none) H', rt := D.rt, bk := fun σ' H' => D.bk (σ'.set i none) H', ct := fun σ' H' => D.ct (σ'.set i none) H' } (σ.set i (some (.ref a))) (upd H a (ExH cls d a))
section
variable {X : Cx} {x n : Str} {c : Value} {i : Nat} {body suite : List Stmt} {b₀ : Stmt} {np pos pos' : Pos} {tb : WX → TS} {ts : TS}
theorem ps_try_hold (hs : X.stack = X.env :: X.outer) (hf : X.env.frame = some X.env.locals) (hex : X.ex = []) (nd : X.N.Nodup) (hi : X.N[i]? = some n) (hln : X.env.kindOf n = some .local) (hc : Names X x c)
    (hb : ∀ (W : WX) (pn : List (Addr × Obj)) (xe : Value → Shared → Prop), Takes (X.tr pn xe) W → PassesOwn (model X.prog X.w) X.A X.env xe → PSs (X.tr pn xe) body (tb W)) (hsu : ∀ (a : Addr) (pn : List (Addr × Obj)), PSs (X.suite a pn) (b₀ :: suite) ts) :
    PS X (.Try body [.ExceptHandler (some (.Name x np)) (some n) (b₀ :: suite) pos'] [] [] pos) (fun D σ H => tb (wHold X.K c i ts D) D σ H) := ⟨fun pins s σ H D I h => by
  have ok := I.ok
  have hfr : X.A.frames = some (X.env :: X.outer) := ok.frames.trans (congrArg some hs)
  have hloc : L2.Loc X.env.scope n := .inl hln
  refine wpAny_Try_except (wpAny_mono ((hb (wHold X.K c i ts D) (X.pn ++ pins) _ ?_ PassesOwn.looking).run [] s σ H D (I.toTry _) h) (fun f s1 r => ?_) fun _ _ z => z)
  · rintro u s' ⟨a, B, sI, pins', σ', H', cls, d, rfl, J', nb, up, sky, na, os, ag, yes1, yes2⟩
    have J : Inv X pins σ' H' sI := J'.ofTry ok
    rw [show (X.tr (X.pn ++ pins) _).stack = X.env :: X.outer from hs] at sky
    show wpAny (model X.prog X.w) X.A (noteFrame (.ref a) X.env) _ _ s'
    refine Sky.land Zc.steady hfr hf sky fun h3 fl3 up3 => ?_
    have J3 : Inv X pins σ' H' { s' with heap := h3 } := J.landed nb fl3.1 (up.trans up3) os ag
    have hB : B.get? a = none := fl3.2.1
    have frs_no : ∀ {h : Heap} {o : Obj} {vs : Array Value}, h.FunFrames B (X.env :: X.outer) → h.get? a = some o → o.data = .fields vs → a ∉ frs (X.env :: X.outer) := fun ff e dd hm => by
      obtain ⟨_, o', e', hnf⟩ := ff.mem hm
      rw [e] at e'
      cases e'
      exact hnf _ dd
    obtain ⟨oe3, vs3, he3, hz3, hd3⟩ := fl3.there
    have nfr := frs_no fl3.2.2.1 he3 hd3
    have nL : a ≠ X.env.locals := fun z => nfr (List.mem_filterMap.mpr ⟨X.env, List.mem_cons_self, by rw [hf, z]⟩)
    have nF : a ∉ X.fs := fun hm => let ⟨e, he, q⟩ := List.mem_filterMap.mp hm; nfr (List.mem_filterMap.mpr ⟨e, List.mem_cons_of_mem _ he, q⟩)
    have nst : a ∉ frs X.stack := by rw [hs]; exact nfr
    have nI : ∀ o, sI.heap.get? a ≠ some o := fun o e => by
      have z := nb a o e nst
      rw [hB] at z
      cases z
    have n0 : X.s_0.heap.get? a = none := by
      cases e : X.s_0.heap.get? a with
      | none => rfl
      | some o =>
        obtain ⟨o', z⟩ := J.base.there a o e (by rw [hex]; exact fun q => nomatch q)
        exact absurd z (nI o')
    have npn : ∀ q ∈ X.pn ++ pins, q.1 ≠ a := fun q hq z => by
      have z1 := (J.pin q hq).1
      rw [z] at z1
      exact nI _ z1
    have S3 := J3.suite he3 hd3 na nL nF
    have LT : PySem.W.Looks (model X.prog X.w) h3 (typeOf (.ref a)) cls := fun A Q E s k q => wpAny_typeOf_ref (k _ _ he3) (by rw [hz3.1]; exact q)
    have LM := PySem.W.exm_one (M := model X.prog X.w) J3.kIn LT yes1
    refine wpAny_handleBy_cons (codeAny_handlers_test ?_) (fun q => by cases q)
    have test : ∀ {Q : Value → Shared → Prop} {E : Value → Shared → Prop}, Q c { s' with heap := h3 } → wpAny (model X.prog X.w) (X.A.mark (some (.ref a))) (eval (.Name x np) X.env) Q E { s' with heap := h3 } := fun {Q E} q => by
      obtain ⟨k1, k2, k3⟩ := hc
      rcases k3 with k3 | ⟨k3, k4, k5⟩
      · exact ld_glob (X := X.suite a ((a, oe3) :: (X.pn ++ pins))) S3 k1 k3 q k2
      · exact ld_blt (X := X.suite a ((a, oe3) :: (X.pn ++ pins))) S3 k1 k3 k4 q k5 k2
    refine test (LM.here (codeAny_handlers_suite_as (HandSPX.lands_againZ fl3 fun h4 fl4 up4 => ?_)))
    obtain ⟨oe4, vs4, he4, hz4, hd4⟩ := fl4.there
    have J4 : Inv X pins σ' H' { s' with heap := h4 } := J.landed nb fl4.1 ((up.trans up3).trans up4) os ag
    have S4 : Inv (X.suite a (X.pn ++ pins)) [] σ' (upd H' a (ExH cls d a)) { s' with heap := h4 } := hold_in J4 he4 hz4 hd4 na nL n0 npn
    refine store_ok (X := X.suite a (X.pn ++ pins)) (v := .ref a) S4 nd hi hloc rfl (fun s5 S5 => ?_) (.inr hln)
    refine wpAny_mono ((hsu a (X.pn ++ pins)).run [] s5 _ _ _ S5 (yes2 a na)) (fun f s6 r => ?_) fun _ _ z => z.elim
    have fin : ∀ {σ6 : L2.St} {H6 : Hp} {Q : Shared → Prop}, Inv (X.suite a (X.pn ++ pins)) [] σ6 H6 s6 → (∀ s7, Inv X pins (σ6.set i none) H6 s7 → Q s7) → wpAny (model X.prog X.w) X.A (do bindName X.env n .none; unbindBehindTheSuite X.env n pos') (fun _ s7 => Q s7) X.xe s6 :=
      fun S6 hq => gone_ok (hold_out S6 ok) nd hi hln hq
    cases f with
    | next => obtain ⟨σ6, H6, S6, q6⟩ := r; exact fin S6 fun s7 J7 => ⟨_, _, J7, q6⟩
    | brk => obtain ⟨σ6, H6, S6, q6⟩ := r; exact fin S6 fun s7 J7 => ⟨_, _, J7, q6⟩
    | cont => obtain ⟨σ6, H6, S6, q6⟩ := r; exact fin S6 fun s7 J7 => ⟨_, _, J7, q6⟩
    | ret u => obtain ⟨v6, σ6, H6, S6, r6, q6⟩ := r; exact fin S6 fun s7 J7 => ⟨_, _, _, J7, r6, q6⟩
  · cases f with
    | next => obtain ⟨σ', H', J', q⟩ := r; exact wpAny_execs_nil ⟨σ', H', J'.ofTry ok, q⟩
    | brk => obtain ⟨σ', H', J', q⟩ := r; exact ⟨σ', H', J'.ofTry ok, q⟩
    | cont => obtain ⟨σ', H', J', q⟩ := r; exact ⟨σ', H', J'.ofTry ok, q⟩
    | ret u => obtain ⟨v, σ', H', J', r', q⟩ := r; exact ⟨v, σ', H', J'.ofTry ok, r', q⟩⟩
end
end Tr

/-! The check of statements. -/
namespace Tr
open PySem PySem.Spec PyProof.Rows L2

def asAsg : Stmt → Option (Expr × Expr) | .Assign [t] v _ => some (t, v) | _ => none
def asExp : Stmt → Option Expr | .Expr e _ => some e | _ => none
def asIfS : Stmt → Option (Expr × List Stmt × List Stmt) | .If c a b _ => some (c, a, b) | _ => none
def asFor : Stmt → Option (Expr × Expr × List Stmt) | .For t i b [] _ => some (t, i, b) | _ => none
def asWhl : Stmt → Option (Expr × List Stmt) | .While c b [] _ => some (c, b) | _ => none
def asRet : Stmt → Option Expr | .Return (some e) _ => some e | _ => none
theorem asAsg_inv {x : Stmt} {a b : Expr} (h : asAsg x = some (a, b)) : ∃ pos, x = .Assign [a] b pos := by
  cases x <;> try (simp [asAsg] at h; done)
  rename_i ts v pos
  match ts, h with
  | [t], h => simp [asAsg] at h; exact ⟨pos, by rw [h.1, h.2]⟩
theorem asExp_inv {x : Stmt} {a : Expr} (h : asExp x = some a) : ∃ pos, x = .Expr a pos := by cases x <;> simp [asExp] at h <;> exact ⟨_, by rw [h]⟩
theorem asIfS_inv {x : Stmt} {c : Expr} {a b : List Stmt} (h : asIfS x = some (c, a, b)) : ∃ pos, x = .If c a b pos := by cases x <;> simp [asIfS] at h <;> exact ⟨_, by rw [h.1, h.2.1, h.2.2]⟩
theorem asFor_inv {x : Stmt} {t i : Expr} {b : List Stmt} (h : asFor x = some (t, i, b)) : ∃ pos, x = .For t i b [] pos := by
  cases x <;> try (simp [asFor] at h; done)
  rename_i t' i' b' o' pos
  cases o' <;> simp [asFor] at h
  exact ⟨pos, by rw [h.1, h.2.1, h.2.2]⟩
theorem asWhl_inv {x : Stmt} {c : Expr} {b : List Stmt} (h : asWhl x = some (c, b)) : ∃ pos, x = .While c b [] pos := by
  cases x <;> try (simp [asWhl] at h; done)
  rename_i c' b' o' pos
  cases o' <;> simp [asWhl] at h
  exact ⟨pos, by rw [h.1, h.2]⟩
theorem asRet_inv {x : Stmt} {c : Expr} (h : asRet x = some c) : ∃ pos, x = .Return (some c) pos := by
  cases x <;> try (simp [asRet] at h; done)
  rename_i v pos
  cases v <;> simp [asRet] at h
  exact ⟨pos, by rw [h]⟩
def isComp : Expr → Bool | .ListComp .. => true | .SetComp .. => true | .DictComp .. => true | _ => false
def isTup : Expr → Bool | .Tuple .. => true | _ => false
/-- a list of one line, straight to its name -/
def swB (sc : Scope) (x : Str) (px : Pos) (v : Expr) : Bool := match v with
  | .ListComp _ _ scope pos => loc1B sc x && (px.line == pos.line) && !(scope.names.any fun (n, k) => n == x && (k == .local || k == .cell))
  | _ => false
theorem sw_no {v : Expr} {t : Option Expr} {l : Nat} {env : PySem.Env} (h : isComp v = false) : swapsWith v t l env = pure false := by cases v <;> first | rfl | cases h
theorem sw_sub {v o i : Expr} {q : Pos} {l : Nat} {env : PySem.Env} : swapsWith v (some (.Subscript o i q)) l env = pure false := by cases v <;> rfl
def isCE : E → Bool | .comp .. => true | .compIf .. => true | _ => false
/-- two names, stored from the right -/
def parB (sc : Scope) (ts vs : List Expr) : Bool := match ts, vs with
  | [.Name x px, .Name y py], [a, b] => loc1B sc x && loc1B sc y && (py.line == px.line) && !(x == y) && plainX a && plainX b && !([a, b].all (foldedForSure 8)) && !([a, b].all (constantsAlone 8))
  | _, _ => false

def asRse : Stmt → Option (Str × List Expr) | .Raise (some (.Call (.Name x _) as [] _)) none _ => some (x, as) | _ => none
def isTxt : List Expr → Bool | [.Constant (.str _) _ _] => true | _ => false
def asTry : Stmt → Option (List Stmt × Str × Str × List Stmt) | .Try body [.ExceptHandler (some (.Name x _)) (some n) suite _] [] [] _ => some (body, x, n, suite) | _ => none
theorem asRse_inv {x : Stmt} {n : Str} {as : List Expr} (h : asRse x = some (n, as)) : ∃ p1 p2 pos, x = .Raise (some (.Call (.Name n p1) as [] p2)) none pos := by
  cases x <;> try (simp [asRse] at h; done)
  rename_i e c pos
  cases e <;> try (simp [asRse] at h; done)
  rename_i e
  cases c <;> cases e <;> try (simp [asRse] at h; done)
  rename_i g args kws pos2
  cases g <;> try (simp [asRse] at h; done)
  cases kws <;> simp [asRse] at h
  exact ⟨_, _, _, by rw [h.1, h.2]⟩
theorem isTxt_inv {as : List Expr} (h : isTxt as = true) : ∃ m j q, as = [.Constant (.str m) j q] := by
  unfold isTxt at h
  split at h
  · exact ⟨_, _, _, rfl⟩
  · cases h
theorem asTry_inv {x : Stmt} {body suite : List Stmt} {c n : Str} (h : asTry x = some (body, c, n, suite)) : ∃ p1 p2 pos, x = .Try body [.ExceptHandler (some (.Name c p1)) (some n) suite p2] [] [] pos := by
  cases x <;> try (simp [asTry] at h; done)
  rename_i b hs oe fb pos
  unfold asTry at h
  split at h
  · rename_i heq
    cases heq
    cases h
    exact ⟨_, _, _, rfl⟩
  · cases h
section
variable (T : Nm) (N : List Str)
def chkEh : Eh → Scope → Expr → Bool
  | .v i, sc, x => match asName x with | some n => decide (N[i]? = some n) && visB sc n && nmB n | none => false
  | .isX cs tp i, sc, x => match asCall x with | some (n, y, [z]) => decide (n = "isinstance") && glB sc n && (match asName y with | some m => decide (N[i]? = some m) && visB sc m && nmB m | none => false) && chkCls T cs tp sc z | _ => false
  | .isVE i, sc, x => match asCall x with | some (n, y, [z]) => decide (n = "isinstance") && glB sc n && (match asName y with | some m => decide (N[i]? = some m) && visB sc m && nmB m | none => false) && chkVE sc z | _ => false
  | .and a b, sc, x => match asBool x with | some (.And, l, r) => chkEh a sc l && chkEh b sc r | _ => false
def chkH : List (Nat × Eh) → Scope → List Stmt → Bool
  | [], _, [] => true
  | (i, e) :: r, sc, s :: ss => (match asAsg s with | some (.Name x _, v) => decide (N[i]? = some x) && locB sc x && chkEh T N e sc v && !(isComp v) | _ => false) && chkH r sc ss
  | _, _, _ => false
def chkNs : List Nat → Scope → List Expr → Bool
  | [], _, [] => true
  | i :: is, sc, .Name x _ :: es => decide (N[i]? = some x) && locB sc x && chkNs is sc es
  | _, _, _ => false
def chkV (x : Nat) (sc : Scope) (o : Expr) : Bool := match asName o with | some n => decide (N[x]? = some n) && visB sc n && nmB n | none => false
def chkP (x : Nat) : Es → Scope → Expr → Bool
  | .nil, sc, o => chkV N x sc o
  | .cons e .nil, sc, o => match asSub o with | some (o', i) => chkV N x sc o' && chkE T N e sc i | none => false
  | _, _, _ => false
/-- an exception that is made and kept -/
def chkM : E → Scope → Expr → Bool
  | .mkx c fs es, sc, x => match asCall x with | some (n, y, ys) => decide (T.x[c]? = some n) && T.rs.contains c && decide (T.xf[c]? = some fs) && !fs.isEmpty && decide (fs.length ≤ 10) && glB sc n && nmB n && chkEs T N es sc (y :: ys) | none => false
  | _, _, _ => false
mutual
def chk1 : S → Scope → Stmt → Bool
  | .mov i j, sc, st => match asAsg st with
    | some (.Name x _, v) => decide (N[i]? = some x) && locB sc x && chkV N j sc v
    | _ => false
  | .asg i e, sc, st => match asAsg st with
    | some (.Name x px, v) => decide (N[i]? = some x) && locB sc x && (chkE T N e sc v || chkM T N e sc v) && (!(isComp v) || (isCE e && swB sc x px v))
    | _ => false
  | .unp is e, sc, st => match asAsg st with
    | some (.Tuple ts _ _, v) => chkNs N is sc ts && chkE T N e sc v && !(isComp v) && !(isTup v)
    | _ => false
  | .par is es, sc, st => match asAsg st with
    | some (.Tuple ts _ _, .Tuple vs _ _) => chkNs N is sc ts && chkEs T N es sc vs && parB sc ts vs
    | _ => false
  | .app x p e, sc, st => match asExp st with
    | some y => (match asMeth y with | some (o, m, [a]) => decide (m = "append") && chkP T N x p sc o && chkE T N e sc a | _ => false)
    | none => false
  | .set x p i e, sc, st => match asAsg st with
    | some (.Subscript o k _, v) => chkP T N x p sc o && chkE T N i sc k && chkE T N e sc v
    | _ => false
  | .put x p i e, sc, st => match asAsg st with
    | some (.Subscript o k _, v) => chkP T N x p sc o && chkE T N i sc k && chkE T N e sc v
    | _ => false
  | .clr x p, sc, st => match asExp st with
    | some y => (match asMeth y with | some (o, m, []) => decide (m = "clear") && chkP T N x p sc o | _ => false)
    | none => false
  | .ins x p i e, sc, st => match asExp st with
    | some y => (match asMeth y with | some (o, m, [k, a]) => decide (m = "insert") && chkP T N x p sc o && chkE T N i sc k && chkE T N e sc a | _ => false)
    | none => false
  | .pop x p i, sc, st => match asExp st with
    | some y => (match asMeth y with | some (o, m, [k]) => decide (m = "pop") && chkP T N x p sc o && chkE T N i sc k | _ => false)
    | none => false
  | .iff c a b, sc, st => match asIfS st with
    | some (t, u, w) => chkE T N c sc t && chkB a sc u && chkB b sc w
    | none => false
  | .for_ tg it b, sc, st => match asFor st with
    | some (tx, ix, u) => (match tgNames tg tx with
      | some ns => tgIt it tg && chkIt T N it sc ix && (ns.zip tg).all (fun z => decide (N[z.2]? = some z.1)) && ns.all (fun n => locB sc n) && chkB b sc u
      | none => false)
    | none => false
  | .whl c b, sc, st => match asWhl st with
    | some (t, u) => chkE T N c sc t && chkB b sc u
    | none => false
  | .ret e, sc, st => match asRet st with
    | some v => chkE T N e sc v
    | none => false
  | .drop e, sc, st => match asExp st with
    | some v => chkE T N e sc v && !(isComp v)
    | none => false
  | .nev, _, _ => true
  | .rse c, sc, st => match asRse st with
    | some (n, as) => decide (T.x[c]? = some n) && T.rs.contains c && decide (T.xf[c]? = some []) && glB sc n && nmB n && isTxt as
    | none => false
  | .rsf c fs es, sc, st => match asRse st with
    | some (n, y :: ys) => decide (T.x[c]? = some n) && T.rs.contains c && decide (T.xf[c]? = some fs) && !fs.isEmpty && decide (fs.length ≤ 10) && glB sc n && nmB n && chkEs T N es sc (y :: ys)
    | _ => false
  | .try_ e x h, sc, st => match asTry st with
    | some (body, c, n, suite) => (match body with
      | [s] => (match asExp s with
        | some v => decide (T.x[0]? = some c) && glB sc c && nmB c && decide (N[x]? = some n) && loc1B sc n && chkE T N e sc v && !(isComp v) && chkH T N h sc suite && !suite.isEmpty
        | none => false)
      | _ => false)
    | none => false
  | _, _, _ => false
def chkB : S → Scope → List Stmt → Bool
  | .skip, _, [] => true
  | .skip, _, [.Pass _] => true
  | .seq a b, sc, st :: r => chk1 a sc st && chkB b sc r
  | .dem _ _ s, sc, sts => chkB s sc sts
  | .brw x l e s, sc, st :: r => (match asAsg st with
    | some (.Name n _, o) => decide (N[x]? = some n) && locB sc n && chkP T N l (.cons e .nil) sc o
    | _ => false) && chkB s sc r
  | .nev, _, _ => true
  | _, _, _ => false
end
end
end Tr

/-! What statements mean, the machine does: the readings. -/
namespace Tr
open PySem PySem.Spec PyProof.Rows L2

/-- where no way on is seen, there is none -/
theorem andThen_nx {R : Res Out} {f : Env → Res Out} {env' : Env} (h : Out.andThen R f = .ok (.nx env')) : ∃ env1, R = .ok (.nx env1) ∧ f env1 = .ok (.nx env') := by
  cases R with
  | ok o =>
    cases o with
    | nx e => exact ⟨e, rfl, h⟩
    | rt d => cases h
  | exc c fs => cases h
  | stuck => cases h
section
variable {G : Gam} {rc : Nat → Nat} {R : Nat}
theorem loopC_some {t : Fls → FO} {fl : Fls} {o : Option Fls} (h : loopC t fl = some o) : ∃ I, o = some I ∧ leF I fl = true ∧ (t I = some none ∨ ∃ f, t I = some (some f) ∧ leF I f = true) := by
  unfold loopC at h
  simp only at h
  generalize loopF t 2 fl = I at h
  by_cases h1 : leF I fl = true
  · rw [if_pos h1] at h
    cases ht : t I with
    | none => rw [ht] at h; cases h
    | some x =>
      cases x with
      | none => rw [ht] at h; cases h; exact ⟨I, rfl, h1, .inl ht⟩
      | some f =>
        rw [ht] at h
        by_cases h2 : leF I f = true
        · simp only at h; rw [if_pos h2] at h; cases h; exact ⟨I, rfl, h1, .inr ⟨f, ht, h2⟩⟩
        · simp only at h; rw [if_neg h2] at h; cases h
  · rw [if_neg h1] at h; cases h
theorem join_ss (a b : Fls) : FO.join (some (some a)) (some (some b)) = if (leF (joinF a b) a && leF (joinF a b) b) = true then some (some (joinF a b)) else none := rfl
theorem join_none {x y : FO} (h : FO.join x y = some none) : x = some none ∧ y = some none := by
  match x, y, h with
  | some none, y, h => exact ⟨rfl, h⟩
  | some (some a), some none, h => cases h
  | some (some a), some (some b), h => rw [join_ss] at h; by_cases hc : (leF (joinF a b) a && leF (joinF a b) b) = true
                                       · rw [if_pos hc] at h; cases h
                                       · rw [if_neg hc] at h; cases h
  | some (some a), none, h => cases h
  | none, _, h => cases h
theorem mutC_nn {x n c : Nat} {fl : Fls} : mutC x n c fl ≠ some none := by unfold mutC; split <;> (intro z; cases z)
theorem tr_end : ∀ (s : S) (fl : Fls), s.tr rc R fl = some none → ∀ env env', s.sem G env ≠ .ok (.nx env')
  | .skip, fl, h, env, env' => by cases h
  | .seq a b, fl, h, env, env' => fun z => by
    obtain ⟨env1, h1, h2⟩ := andThen_nx z
    unfold S.tr at h
    cases ha : a.tr rc R fl with
    | none => rw [ha] at h; cases h
    | some x =>
      cases x with
      | none => exact tr_end a fl ha _ _ h1
      | some f => rw [ha] at h; exact tr_end b f h _ _ h2
  | .asg i e, fl, h, env, env' => by unfold S.tr at h; split at h <;> cases h
  | .mov i j, fl, h, env, env' => by unfold S.tr at h; split at h <;> cases h
  | .unp is e, fl, h, env, env' => by unfold S.tr at h; split at h <;> cases h
  | .par is es, fl, h, env, env' => by unfold S.tr at h; split at h <;> cases h
  | .app x p e, fl, h, env, env' => absurd h mutC_nn
  | .set x p i e, fl, h, env, env' => absurd h mutC_nn
  | .put x p i e, fl, h, env, env' => by
    unfold S.tr at h
    split at h
    · exact absurd h mutC_nn
    · cases h
  | .clr x p, fl, h, env, env' => absurd h mutC_nn
  | .ins x p i e, fl, h, env, env' => by
    unfold S.tr at h
    split at h
    · exact absurd h mutC_nn
    · cases h
  | .pop x p i, fl, h, env, env' => by
    unfold S.tr at h
    split at h
    · exact absurd h mutC_nn
    · cases h
  | .brw x l e s, fl, h, env, env' => fun z => by
    unfold S.tr at h
    split at h
    · obtain ⟨k, _, z⟩ := bind_inv z
      obtain ⟨jc, _, z⟩ := bind_inv z
      cases hs : s.sem G ((env.set l none).set x (some (.lst jc.2.2))) with
      | ok o =>
        cases o with
        | nx env2 =>
          have ht : s.tr rc R ((fl.set l 1).set x (fl.getD l 0 - 1)) = some none := by
            cases ht : s.tr rc R ((fl.set l 1).set x (fl.getD l 0 - 1)) with
            | none => rw [ht] at h; cases h
            | some y =>
              cases y with
              | none => rfl
              | some g => rw [ht] at h; simp only at h; split at h <;> cases h
          exact tr_end s _ ht _ _ hs
        | rt d => rw [hs] at z; cases z
      | exc c fs => rw [hs] at z; cases z
      | stuck => rw [hs] at z; cases z
    · cases h
  | .iff c a b, fl, h, env, env' => fun z => by
    obtain ⟨h1, h2⟩ := join_none h
    obtain ⟨t, _, h3⟩ := boolD_inv z
    cases t with
    | true => exact tr_end a fl h1 _ _ h3
    | false => exact tr_end b fl h2 _ _ h3
  | .for_ tg it b, fl, h, env, env' => by
    unfold S.tr at h
    split at h
    · obtain ⟨I, e, _⟩ := loopC_some h; cases e
    · cases h
  | .whl c b, fl, h, env, env' => by
    obtain ⟨I, e, _⟩ := loopC_some h; cases e
  | .ret e, fl, h, env, env' => fun z => by
    obtain ⟨d, _, h2⟩ := bind_inv z
    cases h2
  | .drop e, fl, h, env, env' => by cases h
  | .nev, fl, h, env, env' => fun z => by cases z
  | .dem i f s, fl, h, env, env' => by
    unfold S.tr at h
    split at h
    · exact tr_end s _ h _ _
    · cases h
  | .rse c, fl, h, env, env' => fun z => by cases z
  | .rsf c fs es, fl, h, env, env' => fun z => by
    obtain ⟨ds, _, h2⟩ := bind_inv z
    split at h2 <;> cases h2
  | .try_ e x hs, fl, h, env, env' => by
    unfold S.tr at h
    split at h <;> cases h
theorem leF_get : ∀ {I f : Fls}, leF I f = true → I.length = f.length ∧ ∀ i, i < f.length → 1 ≤ I.getD i 0 ∧ I.getD i 0 ≤ f.getD i 0
  | [], [], _ => ⟨rfl, fun i h => by simp at h⟩
  | a :: r, b :: q, h => by
    unfold leF at h
    obtain ⟨h1, h2⟩ := and2 h
    have h1 := of_decide_eq_true h1
    obtain ⟨e, g⟩ := leF_get h2
    refine ⟨by simp [e], fun i hi => ?_⟩
    cases i with
    | zero => exact h1
    | succ i => exact g i (by simpa using hi)
theorem join_le {x y : FO} {o : Option Fls} (h : FO.join x y = some o) : (∃ a, x = some a ∧ ∀ f, a = some f → ∃ g, o = some g ∧ (g = f ∨ leF g f = true)) ∧ ∃ b, y = some b ∧ ∀ f, b = some f → ∃ g, o = some g ∧ (g = f ∨ leF g f = true) := by
  match x, y, h with
  | some none, y, h =>
    have h' : y = some o := h
    subst h'
    exact ⟨⟨none, rfl, fun f z => by cases z⟩, o, rfl, fun f z => ⟨f, z, .inl rfl⟩⟩
  | some (some a), some none, h =>
    cases h
    exact ⟨⟨some a, rfl, fun f z => ⟨f, z, .inl rfl⟩⟩, none, rfl, fun f z => by cases z⟩
  | some (some a), some (some b), h =>
    rw [join_ss] at h
    by_cases hc : (leF (joinF a b) a && leF (joinF a b) b) = true
    · rw [if_pos hc] at h
      obtain ⟨h1, h2⟩ := and2 hc
      cases h
      exact ⟨⟨some a, rfl, fun f z => by cases z; exact ⟨_, rfl, .inr h1⟩⟩, some b, rfl, fun f z => by cases z; exact ⟨_, rfl, .inr h2⟩⟩
    · rw [if_neg hc] at h; cases h
  | some (some a), none, h => cases h
  | none, _, h => cases h
end

section
variable (p : Pz) (G : Gam) (rc : Nat → Nat) (R : Nat) (W : WX)
abbrev avR (H0 : Hp) : Avs := ⟨nobody, nobody, fun a => H0 a ≠ none⟩
/-- what is wanted behind a statement -/
def Os (Dn : Ends) (H0 : Hp) (o : Option Fls) (ow : Hold) (H : Hp) : Res Out → Prop
  | .ok (.nx env') => ∃ f, o = some f ∧ ∀ σ' ow' H', Eo p H0 f env' σ' ow' H' → Stp ow H ow' H' → Dn.nx σ' H'
  | .ok (.rt d) => ∀ v H', Same H0 H' → Val p R (avR H0) H0 H' d v → Dn.rt v H'
  | .exc c fs => ∀ cls dd σ' H', Same H0 H' → XR p c fs cls dd H' → W cls dd σ' H'
  | .stuck => False
def tS (s : S) : TS := fun Dn σ H => ∃ H0 env fl ow o, Eo p H0 fl env σ ow H ∧ (s.tr rc R fl = some o ∧ ∀ i, p.fz i ≠ none → s.asn i = false) ∧ Os p R W Dn H0 o ow H (s.sem G env)
end
section
variable {p : Pz} {G : Gam} {rc : Nat → Nat} {R : Nat} {W : WX} {Dn : Ends} {H0 H H' : Hp} {o : Option Fls} {ow ow' : Hold} {σ : L2.St} {env : Env} {fl : Fls}
theorem Os.step {x : Res Out} (st : Stp ow H ow' H') (h : Os p R W Dn H0 o ow H x) : Os p R W Dn H0 o ow' H' x := by
  cases x with
  | ok u =>
    cases u with
    | nx env' =>
      obtain ⟨f, e, h⟩ := h
      exact ⟨f, e, fun σ' ow2 H2 eo s2 => h σ' ow2 H2 eo (st.trans s2)⟩
    | rt d => exact h
  | exc c fs => exact h
  | stuck => exact h
theorem Os.bind {α : Type} {x : Res α} {f : α → Res Out} (s : Same H0 H) (h : Os p R W Dn H0 o ow H (x.bind f)) : Rs p W σ H x fun a => Os p R W Dn H0 o ow H (f a) := by
  cases x with
  | ok a => exact h
  | exc c fs => exact fun cls dd H' s' xr => h cls dd σ H' (s.trans s') xr
  | stuck => exact h
theorem Os.bool {x : Res D} {f : Bool → Res Out} (s : Same H0 H) (h : Os p R W Dn H0 o ow H (boolD x f)) : Rs p W σ H x fun d => ∃ b, d = .bl b ∧ Os p R W Dn H0 o ow H (f b) := by
  refine (Os.bind (f := fun d => match d with | .bl b => f b | _ => .stuck) s h).mono fun d _ h => ?_
  cases d with
  | bl b => exact ⟨b, rfl, h⟩
  | _ => exact h.elim
theorem Os.noexc {α : Type} {x : Res α} {f : α → Res Out} (h : Os p R W Dn H0 o ow H (x.calm.bind f)) : ∃ a, x = .ok a ∧ Os p R W Dn H0 o ow H (f a) := by
  cases x with
  | ok a => exact ⟨a, rfl, h⟩
  | exc c fs => exact h.elim
  | stuck => exact h.elim
/-- other ends -/
theorem Os.ends {Dn' : Ends} {o' : Option Fls} {x : Res Out} (h : Os p R W Dn H0 o ow H x) (hr : Dn'.rt = Dn.rt) (hn : ∀ env' f, x = .ok (.nx env') → o = some f → ∃ f', o' = some f' ∧ ∀ σ' ow' H', Eo p H0 f' env' σ' ow' H' → Stp ow H ow' H' → Dn'.nx σ' H') : Os p R W Dn' H0 o' ow H x := by
  cases x with
  | ok u =>
    cases u with
    | nx env' =>
      obtain ⟨f, e, h⟩ := h
      exact hn env' f rfl e
    | rt d => show ∀ v H', _ → _ → Dn'.rt v H'; rw [hr]; exact h
  | exc c fs => exact h
  | stuck => exact h
theorem Eo.le {f g : Fls} (h : Eo p H0 f env σ ow H) (hg : g = f ∨ leF g f = true) : ∃ ow', Eo p H0 g env σ ow' H ∧ Stp ow H ow' H := by
  rcases hg with rfl | hg
  · exact ⟨ow, h, .refl⟩
  · obtain ⟨e, g⟩ := leF_get hg
    exact h.weak e g
/-- one branch of two -/
theorem Os.weak {a : Option Fls} {x : Res Out} (hx : ∀ env', x = .ok (.nx env') → a ≠ none) (hl : ∀ f, a = some f → ∃ g, o = some g ∧ (g = f ∨ leF g f = true)) (h : Os p R W Dn H0 o ow H x) : Os p R W Dn H0 a ow H x := by
  refine h.ends rfl fun env' g e1 e2 => ?_
  cases a with
  | none => exact absurd rfl (hx env' e1)
  | some f =>
    obtain ⟨g', e3, le⟩ := hl f rfl
    rw [e2] at e3; cases e3
    refine ⟨f, rfl, fun σ' ow' H' eo st => ?_⟩
    subst e1
    obtain ⟨g2, e4, h⟩ := h
    rw [e2] at e4; cases e4
    obtain ⟨ow2, eo2, st2⟩ := eo.le le
    exact h σ' ow2 H' eo2 (st.trans st2)
theorem Os.then {a : Option Fls} {x : Res Out} {k : Env → Res Out} {Dn' : Ends} (hr : Dn'.rt = Dn.rt) (h : Os p R W Dn H0 o ow H (Out.andThen x k)) (hx : ∀ env', x = .ok (.nx env') → a ≠ none)
    (hn : ∀ env' f σ' ow' H', x = .ok (.nx env') → a = some f → Eo p H0 f env' σ' ow' H' → Stp ow H ow' H' → Os p R W Dn H0 o ow' H' (k env') → Dn'.nx σ' H') : Os p R W Dn' H0 a ow H x := by
  cases x with
  | ok u =>
    cases u with
    | nx env' =>
      cases a with
      | none => exact absurd rfl (hx env' rfl)
      | some f => exact ⟨f, rfl, fun σ' ow' H' eo st => hn env' f σ' ow' H' rfl rfl eo st (Os.step st h)⟩
    | rt d => show ∀ v H', _ → _ → Dn'.rt v H'; rw [hr]; exact h
  | exc c fs => exact h
  | stuck => exact h

/-- a name that is given a value is free to be -/
theorem fz_none {b : Nat → Bool} {i : Nat} (hz : ∀ i, p.fz i ≠ none → b i = false) (h : b i = true) : p.fz i = none := by
  cases e : p.fz i with
  | none => rfl
  | some v => have := hz i (by rw [e]; intro z; cases z); rw [h] at this; cases this
/-! ### one by one -/
theorem t_skip {σ : L2.St} (h : tS p G rc R W .skip Dn σ H) : tNext Dn σ H := by
  obtain ⟨H0, env, fl, ow, o, eo, ⟨ht, hz⟩, f, e, h⟩ := h
  cases ht
  cases e
  exact h σ ow H eo .refl
theorem t_seq {a b : S} (h : tS p G rc R W (.seq a b) Dn σ H) : tSeq (tS p G rc R W a) (tS p G rc R W b) Dn σ H := by
  obtain ⟨H0, env, fl, ow, o, eo, ⟨ht, hz⟩, h⟩ := h
  unfold S.tr at ht
  cases ha : a.tr rc R fl with
  | none => rw [ha] at ht; cases ht
  | some x =>
    refine ⟨H0, env, fl, ow, x, eo, ⟨ha, fun i z => (Bool.or_eq_false_iff.mp (hz i z)).1⟩, Os.then (Dn := Dn) (Dn' := { Dn with nx := tS p G rc R W b Dn }) rfl h (fun env' e z => ?_) fun env' f σ' ow' H' e1 e2 eo' st h' => ?_⟩
    · subst z
      exact tr_end a fl ha _ _ e
    · subst e2
      rw [ha] at ht
      exact ⟨H0, env', f, ow', o, eo', ⟨ht, fun i z => (Bool.or_eq_false_iff.mp (hz i z)).2⟩, h'⟩
theorem t_iff {c : E} {a b : S} (h : tS p G rc R W (.iff c a b) Dn σ H) : tIfS (tT p G W c) (tS p G rc R W a) (tS p G rc R W b) Dn σ H := by
  obtain ⟨H0, env, fl, ow, o, eo, ⟨ht, hz⟩, h⟩ := h
  obtain ⟨⟨oa, ha, la⟩, ob, hb, lb⟩ := join_le ht
  refine ⟨env, fl, _, eo.er, (Os.bool eo.base h).mono fun d _ h => ?_⟩
  obtain ⟨t, rfl, h⟩ := h
  refine ⟨t, rfl, fun H1 s1 => ?_⟩
  have h1 := Os.step (Stp.same s1) h
  cases t with
  | true => exact ⟨H0, env, fl, ow, oa, eo.same s1, ⟨ha, fun i z => (Bool.or_eq_false_iff.mp (hz i z)).1⟩, Os.weak (fun env' e z => tr_end a fl (z ▸ ha) _ _ e) la h1⟩
  | false => exact ⟨H0, env, fl, ow, ob, eo.same s1, ⟨hb, fun i z => (Bool.or_eq_false_iff.mp (hz i z)).2⟩, Os.weak (fun env' e z => tr_end b fl (z ▸ hb) _ _ e) lb h1⟩
theorem t_asg {i : Nat} {e : E} (hr : ∀ f, 2 ≤ rc f ∧ rc f ≤ 9) (h : tS p G rc R W (.asg i e) Dn σ H) : tE p G rc W e σ H fun x H1 => gName i x σ H1 Dn.nx := by
  obtain ⟨H0, env, fl, ow, o, eo, ⟨ht, hz⟩, h⟩ := h
  unfold S.tr at ht
  obtain ⟨⟨hi, hc⟩, e'⟩ : (i < fl.length ∧ e.cls rc fl ≠ 0) ∧ o = some (fl.set i (e.cls rc fl)) := by split at ht <;> cases ht; exact ⟨by assumption, rfl⟩
  subst e'
  refine ⟨env, fl, _, eo.er, (Os.bind eo.base h).mono fun d _ h v H1 s1 val _ => ?_⟩
  obtain ⟨f, ef, h⟩ := h
  cases ef
  obtain ⟨ow', eo', st⟩ := eo.asg s1 hc (E.cls_le hr e fl) hi (fz_none hz (beq_self_eq_true i)) val
  exact h _ ow' H1 eo' st
theorem t_mov {i j : Nat} (h : tS p G rc R W (.mov i j) Dn σ H) : tVar j σ H fun x H1 => gName i x σ H1 Dn.nx := by
  obtain ⟨H0, env, fl, ow, o, eo, ⟨ht, hz⟩, h⟩ := h
  unfold S.tr at ht
  obtain ⟨⟨hij, hi, hj⟩, e'⟩ : (i ≠ j ∧ i < fl.length ∧ j < fl.length) ∧ o = some ((fl.set j 1).set i (fl.getD j 0)) := by split at ht <;> cases ht; exact ⟨by assumption, rfl⟩
  subst e'
  unfold S.sem at h
  split at h
  · rename_i d ed
    obtain ⟨v, ev, _⟩ := eo.slot j d ed
    obtain ⟨f, ef, h⟩ := h
    cases ef
    obtain ⟨ow', eo', st⟩ := eo.mov hij hi hj (fz_none hz (beq_self_eq_true i)) ed ev
    exact ⟨v, ev, h _ ow' H eo' st⟩
  · exact h.elim
theorem t_drop {e : E} (h : tS p G rc R W (.drop e) Dn σ H) : tDrop (tE p G rc W e) Dn σ H := by
  obtain ⟨H0, env, fl, ow, o, eo, ⟨ht, hz⟩, h⟩ := h
  cases ht
  refine ⟨env, fl, _, eo.er, (Os.bind eo.base h).mono fun d _ h v H1 s1 val _ => ?_⟩
  obtain ⟨f, ef, h⟩ := h
  cases ef
  exact h _ ow H1 (eo.same s1) (.same s1)
theorem t_dem {i f : Nat} {s : S} (h : tS p G rc R W (.dem i f s) Dn σ H) : tS p G rc R W s Dn σ H := by
  obtain ⟨H0, env, fl, ow, o, eo, ⟨ht, hz⟩, h⟩ := h
  unfold S.tr at ht
  split at ht
  · rename_i hc
    have h0 : (fl.set i f).getD i 0 = f ∨ fl.length ≤ i := by
      by_cases hi : i < fl.length
      · rw [getD_set hi, if_pos rfl]; exact .inl rfl
      · exact .inr (by omega)
    have hi : i < fl.length := Classical.byContradiction fun z => by
      have : fl.getD i 0 = 0 := by rw [List.getD_eq_getElem?_getD, List.getElem?_eq_none (by omega)]; rfl
      omega
    obtain ⟨ow', eo', st⟩ := eo.weak (fl' := fl.set i f) (by simp) fun j hj => by
      rw [getD_set hi]
      split
      · rename_i e; subst e; omega
      · exact ⟨(eo.fl9 j hj).1, Nat.le_refl _⟩
    exact ⟨H0, env, _, ow', o, eo', ⟨ht, hz⟩, Os.step st h⟩
  · cases ht
end
end Tr

/-! What statements mean, the machine does: loops, changes, returns. -/
namespace Tr
open PySem PySem.Spec PyProof.Rows L2
section
variable {p : Pz} {G : Gam} {rc : Nat → Nat} {R : Nat} {W : WX} {Dn : Ends} {H0 H H' : Hp} {o : Option Fls} {ow ow' : Hold} {σ : L2.St} {env : Env} {fl : Fls}

theorem t_whl {c : E} {b : S} (h : tS p G rc R W (.whl c b) Dn σ H) : tWhile (tT p G W c) (tS p G rc R W b) Dn σ H := by
  obtain ⟨H0, env, fl, ow, o, eo, ⟨ht, hz⟩, h⟩ := h
  obtain ⟨I, rfl, le, hb⟩ := loopC_some ht
  obtain ⟨owI, eoI, stI⟩ := eo.le (.inr le)
  have hI := Os.step stI h
  have ns : whileD (fun env => c.sem G env) (fun env => b.sem G env) env ≠ .stuck := fun z => by
    have h' : Os p R W Dn H0 (some I) ow H (whileD (fun env => c.sem G env) (fun env => b.sem G env) env) := h
    rw [z] at h'; exact h'
  obtain ⟨n, en⟩ := whileD_ex _ _ ns
  refine ⟨fun m σ H => ∃ env ow, Eo p H0 I env σ ow H ∧ Os p R W Dn H0 (some I) ow H (whileN (fun env => c.sem G env) (fun env => b.sem G env) m env), ⟨n, env, owI, eoI, by rw [en]; exact hI⟩, ?_⟩
  rintro m σ H ⟨env, ow, eo, h⟩
  cases m with
  | zero => exact h.elim
  | succ m =>
    refine ⟨env, I, _, eo.er, (Os.bool (x := c.sem G env) eo.base h).mono fun d _ h => ?_⟩
    obtain ⟨t, rfl, h⟩ := h
    refine ⟨t, rfl, fun H1 s1 => ?_⟩
    cases t with
    | false =>
      rw [if_neg (by decide)]
      obtain ⟨f, ef, h⟩ := h
      cases ef
      exact h σ ow H1 (eo.same s1) (.same s1)
    | true =>
      rw [if_pos rfl]
      refine ⟨fun σ' H' => ∃ env ow, Eo p H0 I env σ' ow H' ∧ Os p R W Dn H0 (some I) ow H' (whileN (fun env => c.sem G env) (fun env => b.sem G env) m env), fun σ' H' q => ⟨m, Nat.lt_succ_self m, q⟩, ?_⟩
      have h1 := Os.step (Stp.same s1) h
      rcases hb with hb | ⟨f, hb, lf⟩
      · exact ⟨H0, env, I, ow, none, eo.same s1, ⟨hb, hz⟩, Os.then (Dn := Dn) rfl h1 (fun env' e z => tr_end b I hb _ _ e) fun env' f σ' ow' H' _ e => by cases e⟩
      · refine ⟨H0, env, I, ow, some f, eo.same s1, ⟨hb, hz⟩, Os.then (Dn := Dn) rfl h1 (fun env' e z => by cases z) fun env' f' σ' ow' H' _ e eo' st h' => ?_⟩
        cases e
        obtain ⟨ow2, eo2, st2⟩ := eo'.le (.inr lf)
        exact ⟨env', ow2, eo2, Os.step st2 h'⟩
/-- the targets of a loop -/
theorem gTg_eo {K : PySem.W.Frag} {tg : List Nat} {m : Nat} {d : D} {x : V} {env' : Env} {Q : L2.St → Hp → Prop} (h : Eo p H0 fl env σ ow H) (hm : m = 1 ∨ m = 2 ∨ m = 9) (ht : (tg.all fun i => decide (i < fl.length)) = true) (hz : ∀ i ∈ tg, p.fz i = none) (c : Clo p H m (avO H0 ow) d x) (hs : setTg tg d env = .ok env')
    (fin : ∀ σ', Eo p H0 (setFl tg m fl) env' σ' ow H → Q σ' H) : gTg K tg x σ H Q := by
  match tg, hs with
  | [i], hs =>
    cases hs
    rw [List.all_cons, Bool.and_eq_true] at ht
    exact fin _ (h.put hm (of_decide_eq_true ht.1) (hz i List.mem_cons_self) c)
  | [i, j], hs =>
    have c2 : ∃ d1 d2, d = .tup [d1, d2] ∧ env' = (env.set i (some d1)).set j (some d2) := by
      cases d with
      | tup ds =>
        match ds, hs with
        | [d1, d2], hs => exact ⟨d1, d2, rfl, (Res.ok.inj hs).symm⟩
      | _ => cases hs
    obtain ⟨d1, d2, rfl, rfl⟩ := c2
    obtain ⟨⟨q, vs, rfl, hq, x1, _, rfl, r1, x2, _, rfl, r2, rfl⟩, cp⟩ := c
    have p1 : m = 9 → d1.pure = true ∧ d2.pure = true := fun e => by
      have q : (d1.pure && (d2.pure && true)) = true := cp e
      rw [Bool.and_true, Bool.and_eq_true] at q
      exact q
    rw [List.all_cons, List.all_cons, Bool.and_eq_true, Bool.and_eq_true] at ht
    refine ⟨q, _, rfl, SqT.of hq, rfl, x1, _, rfl, x2, _, rfl, rfl, ?_⟩
    exact fin _ ((h.put hm (of_decide_eq_true ht.1) (hz i List.mem_cons_self) ⟨r1, fun e => (p1 e).1⟩).put hm (by rw [List.length_set]; exact of_decide_eq_true ht.2.1) (hz j (by simp)) ⟨r2, fun e => (p1 e).2⟩)
theorem cls0_two (it : It) (fl : Fls) : it.cls0 rc fl ≤ 2 ∨ it.cls0 rc fl = 9 := by cases it <;> first | exact tupC_two _ | exact .inr rfl
theorem t_for {K : PySem.W.Frag} {tg : List Nat} {it : It} {b : S} (h : tS p G rc R W (.for_ tg it b) Dn σ H) : tFor (tIt p G rc W it) (gTg K tg) (tS p G rc R W b) Dn σ H := by
  obtain ⟨H0, env, fl, ow, o, eo, ⟨ht, hz⟩, h⟩ := h
  unfold S.tr at ht
  split at ht
  · rename_i hc
    obtain ⟨I, rfl, le, hb⟩ := loopC_some ht
    refine ⟨env, fl, _, eo.er, (Os.bind eo.base h).mono fun ds _ h J H1 srcs s1 wk cn c0 => ?_⟩
    have hm : it.cls0 rc fl = 1 ∨ it.cls0 rc fl = 2 ∨ it.cls0 rc fl = 9 := by
      have := cls0_two (rc := rc) it fl
      have := hc.2
      omega
    generalize it.cls0 rc fl = m at hm hb c0
    obtain ⟨owI, eoI, stI⟩ := (eo.same s1).le (.inr le)
    have lI : I.length = fl.length := (leF_get le).1
    have htg : (tg.all fun i => decide (i < I.length)) = true := by rw [lI]; exact hc.1
    refine ⟨fun i n σ H => n = ds.length - i ∧ i ≤ ds.length ∧ ∃ env ow', Eo p H0 I env σ ow' H ∧ Stp ow H1 ow' H ∧ Os p R W Dn H0 (some I) ow' H (forD (fun d env => (setTg tg d env).bind fun env' => b.sem G env') (ds.drop i) env), ⟨_, rfl, Nat.zero_le _, env, owI, eoI, stI, Os.step ((Stp.same s1).trans stI) h⟩, ?_⟩
    rintro i n σ H ⟨rfl, hi, env, ow', eo', st, h⟩
    have cs : ∀ s ∈ srcs, Cn p H m (avO H0 ow') s.1 s.2 := fun s hs => Clo.cn (by omega) eo'.ok (Clo.step hm st (c0 s hs))
    obtain ⟨w1, w2⟩ := wk m (avO H0 ow') H (by omega) eo'.ok cs
    by_cases hlt : i < ds.length
    · have ed : ds[i]? = some ds[i] := List.getElem?_eq_getElem hlt
      obtain ⟨go, yl⟩ := w1 i _ ed
      rw [List.drop_eq_getElem_cons hlt] at h
      refine .inr ⟨go, fun σ' H' => i + 1 ≤ ds.length ∧ ∃ env ow', Eo p H0 I env σ' ow' H' ∧ Stp ow H1 ow' H' ∧ Os p R W Dn H0 (some I) ow' H' (forD (fun d env => (setTg tg d env).bind fun env' => b.sem G env') (ds.drop (i + 1)) env), fun σ' H' q => ⟨ds.length - (i + 1), by omega, rfl, q.1, q.2⟩, fun x H2 y => ?_⟩
      obtain ⟨s2, cx⟩ := yl x H2 y
      have h' : Os p R W Dn H0 (some I) ow' H (Out.andThen ((setTg tg ds[i] env).bind fun env' => b.sem G env') (forD (fun d env => (setTg tg d env).bind fun env' => b.sem G env') (ds.drop (i + 1)))) := h
      cases hs : setTg tg ds[i] env with
      | stuck => rw [hs] at h'; exact h'.elim
      | exc c fs => exact absurd hs setTg_noexc
      | ok env' =>
        rw [hs] at h'
        refine gTg_eo (eo'.same s2) hm htg (fun i hi => fz_none hz (by show (tg.contains i || b.asn i) = true; rw [List.contains_iff_mem.mpr hi]; rfl)) cx hs fun σ' eo2 => ?_
        have h2 := Os.step (Stp.same s2) h'
        rcases hb with hb | ⟨f, hb, lf⟩
        · exact ⟨H0, env', _, ow', none, eo2, ⟨hb, fun i z => (Bool.or_eq_false_iff.mp (hz i z)).2⟩, Os.then (Dn := Dn) rfl h2 (fun env' e z => tr_end b _ hb _ _ e) fun env' f σ' ow' H' _ e => by cases e⟩
        · refine ⟨H0, env', _, ow', some f, eo2, ⟨hb, fun i z => (Bool.or_eq_false_iff.mp (hz i z)).2⟩, Os.then (Dn := Dn) rfl h2 (fun env' e z => by cases z) fun env' f' σ' ow3 H' _ e eo3 st3 h3 => ?_⟩
          cases e
          obtain ⟨ow4, eo4, st4⟩ := eo3.le (.inr lf)
          exact ⟨hlt, env', ow4, eo4, (st.trans (.same s2)).trans (st3.trans st4), Os.step st4 h3⟩
    · have e : i = ds.length := by omega
      subst e
      rw [List.drop_length] at h
      obtain ⟨f, ef, h⟩ := h
      cases ef
      exact .inl ⟨w2, h σ ow' H eo' .refl⟩
  · cases ht
/-- what is told ends as the caller wants it -/
theorem Val.told {c : Nat} {d : D} {v : V} (eo : Eo p H0 fl env σ ow H) (s : Same H H') (h2 : 2 ≤ c) (h : Val p c (avO H0 ow) H H' d v) : Val p c (avR H0) H0 H' d v := by
  obtain ⟨tn, f, h⟩ := h
  refine ⟨tn, fun a z => ⟨free_of eo.base (f a z).1, (f a z).2⟩, Cl.same' (fun _ _ e => e) (fun a z => z.elim) (fun a z => z.elim) (fun a z => .inl ?_) (fun a r z _ => z) h⟩
  rcases z with z | z
  · exact .inl (.inr z)
  · exact .inr z
theorem avR_ok (eo : Eo p H0 fl env σ ow H) : (avR H0).Ok H0 := ⟨fun a z => z.elim, fun a z => z.elim, fun a z => z⟩
theorem t_ret {e : E} (hR : 2 ≤ R) (hr : ∀ f, 2 ≤ rc f ∧ rc f ≤ 9) (ne : ∀ i, e ≠ .v i) (h : tS p G rc R W (.ret e) Dn σ H) : tRet (tE p G rc W e) Dn σ H := by
  obtain ⟨H0, env, fl, ow, o, eo, ⟨ht, hz⟩, h⟩ := h
  have hc : R ≤ e.cls rc fl := by
    unfold S.tr at ht
    split at ht
    · rename_i hc
      cases e <;> first | exact hc | exact absurd rfl (ne _)
    · cases ht
  refine ⟨env, fl, _, eo.er, (Os.bind eo.base h).mono fun d _ h v H1 s1 val _ => ?_⟩
  exact h v H1 (eo.base.trans s1) ((Val.told eo s1 (by omega) val).weak hc (E.cls_le hr e fl) (avR_ok eo))
theorem t_retV {i : Nat} (hR : 2 ≤ R) (h : tS p G rc R W (.ret (.v i)) Dn σ H) : tRet (tVar i) Dn σ H := by
  obtain ⟨H0, env, fl, ow, o, eo, ⟨ht, hz⟩, h⟩ := h
  have hc : R ≤ fl.getD i 0 := by
    unfold S.tr at ht
    split at ht
    · rename_i hc; exact hc
    · cases ht
  have h' : Os p R W Dn H0 o ow H (((E.v i).sem G env).bind fun d => .ok (.rt d)) := h
  unfold E.sem at h'
  split at h'
  · rename_i d e
    obtain ⟨v, ev, c⟩ := eo.slot i d e
    have hi : i < fl.length := by rw [eo.fln]; exact (List.getElem?_eq_some_iff.mp e).1
    have h9 := eo.fl9 i hi
    refine ⟨v, ev, h' v H eo.base ?_⟩
    have val : Val p (fl.getD i 0) (avR H0) H0 H d v := by
      refine ⟨fun a => match ow a with | some (j, r) => if j = i then some r else none | none => none, fun a z => ?_, ?_⟩
      · have : ow a ≠ none := fun e => z (by simp only [e])
        exact eo.fresh a this
      · refine Cl.same' (fun _ _ e => e) (fun a z => z.elim) (fun a z => z.elim) (fun a z => .inl ?_) (fun a r z _ => ?_) c
        · rcases z with z | z
          · exact .inr z
          · exact .inl fun e => z (by simp only [e])
        · have z' : ow a = some (i, r) := z
          show (match ow a with | some (j, r) => if j = i then some r else none | none => none) = some r
          simp only [z', if_pos]
    exact val.weak hc h9.2 (avR_ok eo)
  · exact h'.elim
end
end Tr

/-! What statements mean, the machine does: targets, changes in place. -/
namespace Tr
open PySem PySem.Spec PyProof.Rows L2
section
variable {p : Pz} {G : Gam} {rc : Nat → Nat} {R : Nat} {W : WX} {Dn : Ends} {H0 H H' : Hp} {o : Option Fls} {ow ow' : Hold} {σ : L2.St} {env : Env} {fl : Fls}
def gNs : List Nat → TGs
  | [] => gNil
  | i :: is => gCons (gName i) (gNs is)
theorem gNs_eo {m : Nat} (hm : m = 1 ∨ m = 2 ∨ m = 9) : ∀ {is : List Nat} {ds : List D} {vs : List V} {fl : Fls} {env env' : Env} {σ : L2.St} {Q : L2.St → Hp → Prop}, Eo p H0 fl env σ ow H → (is.all fun i => decide (i < fl.length)) = true → (∀ i ∈ is, p.fz i = none) → CloL p H m (avO H0 ow) ds vs → setAll is ds env = .ok env' →
    (∀ σ', Eo p H0 (setFl is m fl) env' σ' ow H → Q σ' H) → gNs is vs σ H Q
  | [], [], vs, fl, env, env', σ, Q, h, _, _, c, e, fin => by
    cases e
    have : vs = [] := List.length_eq_zero_iff.mp c.1.length
    subst this
    exact ⟨rfl, fin σ h⟩
  | [], d :: ds, vs, fl, env, env', σ, Q, h, _, _, c, e, fin => by cases e
  | i :: is, [], vs, fl, env, env', σ, Q, h, _, _, c, e, fin => by cases e
  | i :: is, d :: ds, vs, fl, env, env', σ, Q, h, ht, hz, c, e, fin => by
    obtain ⟨⟨v, r, rfl, h1, h2⟩, cp⟩ := c
    have cq : m = 9 → d.pure = true ∧ D.pureL ds = true := fun z => by
      have q : (d.pure && D.pureL ds) = true := cp z
      rwa [Bool.and_eq_true] at q
    rw [List.all_cons, Bool.and_eq_true] at ht
    refine ⟨v, r, rfl, ?_⟩
    exact gNs_eo hm (h.put hm (of_decide_eq_true ht.1) (hz i List.mem_cons_self) ⟨h1, fun z => (cq z).1⟩) (by rw [List.length_set]; exact ht.2) (fun j hj => hz j (List.mem_cons_of_mem _ hj)) ⟨h2, fun z => (cq z).2⟩ e fin
theorem setAll_noexc {c : Nat} {fs : List (Str × Int)} : ∀ {is : List Nat} {ds : List D} {env : Env}, setAll is ds env ≠ .exc c fs
  | [], [], _, h => by cases h
  | [], _ :: _, _, h => by cases h
  | _ :: _, [], _, h => by cases h
  | i :: is, d :: ds, env, h => setAll_noexc (is := is) (ds := ds) h
theorem setAll_len {env' : Env} : ∀ {is : List Nat} {ds : List D} {env : Env}, setAll is ds env = .ok env' → ds.length = is.length
  | [], [], _, _ => rfl
  | [], _ :: _, _, h => by cases h
  | _ :: _, [], _, h => by cases h
  | i :: is, d :: ds, env, h => by rw [List.length_cons, List.length_cons, setAll_len (is := is) (ds := ds) h]
theorem two_of {m : Nat} (h : m ≤ 2 ∨ m = 9) (h0 : m ≠ 0) : m = 1 ∨ m = 2 ∨ m = 9 := by omega
theorem t_unp {X : Cx} {kk : Nat} {T : Nm} {is : List Nat} {e : E} (g : Good p T G rc kk W X) (h : tS p G rc R W (.unp is e) Dn σ H) : tAsg (tE p G rc W e) (gTup X.K is.length (gNs is)) Dn σ H := by
  obtain ⟨H0, env, fl, ow, o, eo, ⟨ht, hz⟩, h⟩ := h
  unfold S.tr at ht
  obtain ⟨⟨hi, hc⟩, e'⟩ : ((is.all fun i => decide (i < fl.length)) = true ∧ e.cct rc fl ≠ 0) ∧ o = some (setFl is (e.cct rc fl) fl) := by split at ht <;> cases ht; exact ⟨by assumption, rfl⟩
  subst e'
  refine ⟨env, fl, _, eo.er, (Os.bind eo.base h).mono fun d _ h v H1 s1 val cn => ?_⟩
  cases d with
  | tup ds =>
    obtain ⟨q, vs, rfl, hq, c⟩ := cn
    have h1 := Os.step (Stp.same s1) h
    cases hs : setAll is ds env with
    | stuck =>
      have h1' : Os p R W Dn H0 (some (setFl is (e.cct rc fl) fl)) ow H1 ((setAll is ds env).bind fun env' => .ok (.nx env')) := h1
      rw [hs] at h1'; exact h1'.elim
    | exc c' fs =>
      exact absurd hs setAll_noexc
    | ok env' =>
      have h1' : Os p R W Dn H0 (some (setFl is (e.cct rc fl) fl)) ow H1 ((setAll is ds env).bind fun env' => .ok (.nx env')) := h1
      rw [hs] at h1'
      obtain ⟨f, ef, h1'⟩ := h1'
      cases ef
      refine ⟨q, vs, rfl, SqT.of hq, ?_, gNs_eo (two_of (E.cct_two e fl) hc) (eo.same s1) hi (fun i hi => fz_none hz (List.contains_iff_mem.mpr hi)) c hs fun σ' eo' => h1' σ' ow H1 eo' .refl⟩
      rw [c.1.length]
      exact setAll_len hs
  | _ => exact h.elim
theorem t_par {i j : Nat} {es : Es} (hr : ∀ f, 2 ≤ rc f ∧ rc f ≤ 9) (h : tS p G rc R W (.par [i, j] es) Dn σ H) : tPar i j (tEs p G rc W es) Dn σ H := by
  obtain ⟨H0, env, fl, ow, o, eo, ⟨ht, hz⟩, h⟩ := h
  unfold S.tr at ht
  obtain ⟨⟨hi, hc⟩, e'⟩ : (([i, j].all fun i => decide (i < fl.length)) = true ∧ tupC (es.cls rc fl) ≠ 0) ∧ o = some (setFl [i, j] (tupC (es.cls rc fl)) fl) := by split at ht <;> cases ht; exact ⟨by assumption, rfl⟩
  subst e'
  refine ⟨env, fl, _, eo.er, (Os.bind eo.base h).mono fun ds _ h vs H1 s1 el => ?_⟩
  have c := el.cloL eo.ok (Es.cls_le hr es fl)
  have hm := two_of (tupC_two (es.cls rc fl)) hc
  generalize tupC (es.cls rc fl) = m at hm c h
  have h1 := Os.step (Stp.same s1) h
  rw [List.all_cons, List.all_cons, Bool.and_eq_true, Bool.and_eq_true] at hi
  match ds, h1, c with
  | [d1, d2], h1, c =>
    obtain ⟨⟨v1, w1, e1, r1, v2, w2, e2, r2, e3⟩, cp⟩ := c
    have e3' : w2 = [] := e3
    subst e1 e2 e3'
    have p1 : m = 9 → d1.pure = true ∧ d2.pure = true := fun e => by
      have q : (d1.pure && (d2.pure && true)) = true := cp e
      rw [Bool.and_true, Bool.and_eq_true] at q
      exact q
    obtain ⟨f, ef, h1⟩ := h1
    cases ef
    exact ⟨v1, v2, rfl, h1 _ ow H1 (((eo.same s1).put hm (of_decide_eq_true hi.1) (fz_none hz (show ([i, j].contains i) = true by simp)) ⟨r1, fun e => (p1 e).1⟩).put hm (by rw [List.length_set]; exact of_decide_eq_true hi.2.1) (fz_none hz (show ([i, j].contains j) = true by simp)) ⟨r2, fun e => (p1 e).2⟩) .refl⟩
  | [], h1, _ => exact h1.elim
  | [_], h1, _ => exact h1.elim
  | _ :: _ :: _ :: _, h1, _ => exact h1.elim

/-! ### changes -/
/-- the way, as the program writes it -/
def tP (p : Pm) (G : Gam) (rc : Nat → Nat) (W : WX) (K : PySem.W.Frag) (x : Nat) : Es → TE
  | .nil => tVar x
  | .cons e .nil => tOp (rIx K) (tVar x) (tE p G rc W e)
  | _ => fun _ _ _ => False
def shortP : Es → Bool
  | .nil => true
  | .cons _ .nil => true
  | _ => false
theorem Way.same {x : Nat} {ks : List D} {d0 : D} {a : Addr} (s : Same H H') (h : Way σ H x ks d0 a) : Way σ H' x ks d0 a := by
  obtain ⟨v, e1, e2, e3⟩ := h
  refine ⟨v, e1, e2, fun i xs h1 h2 => ?_⟩
  obtain ⟨b, vs, j, q1, q2, q3⟩ := e3 i xs h1 h2
  exact ⟨b, vs, j, q1, s _ _ q2, q3⟩
theorem way_path {f : D → Res D} {x : Nat} {pe : Es} {ks : List D} {d0 d1 : D} {a : Addr} {K : PySem.W.Frag} {A : Avs} {Q : VK} (hs : shortP pe = true) (hr : ∀ f, 2 ≤ rc f ∧ rc f ≤ 9) (er : Er p A fl env σ H) (hp : pe.sem G env = .ok ks) (hd : atPath f ks d0 = .ok d1) (w : Way σ H x ks d0 a)
    (q : ∀ H', Same H H' → Q (.ref a) H') : tP p G rc W K x pe σ H Q := by
  obtain ⟨v, e1, e2, e3⟩ := w
  match pe, hs with
  | .nil, _ =>
    cases hp
    exact ⟨v, e1, by rw [e2 rfl]; exact q H fun _ _ e => e⟩
  | .cons e .nil, _ =>
    have hp' : (e.sem G env).bind (fun d => ((Es.nil.sem G env)).bind fun ds => .ok (d :: ds)) = .ok ks := hp
    obtain ⟨k, hk, hp'⟩ := bind_inv hp'
    have : ks = [k] := (Res.ok.inj hp').symm
    subst this
    have sh : ∃ i xs, k = .int i ∧ d0 = .lst xs := by
      unfold atPath at hd
      split at hd
      · rename_i heq; cases heq
      · rename_i i ks' xs heq; cases heq; exact ⟨i, xs, rfl, rfl⟩
      · cases hd
    obtain ⟨i, xs, rfl, rfl⟩ := sh
    obtain ⟨b, vs, j, rfl, hb, hl, hj, hv⟩ := e3 i xs rfl rfl
    refine ⟨_, e1, env, fl, A, er, ?_⟩
    rw [hk]
    intro u H1 s1 val _
    have hu : u = .int i := val.rep (E.cls_le hr e fl) er.ok
    subst hu
    refine .inl ⟨b, vs, i, .ref a, rfl, rfl, SqL.of (s1 _ _ hb), ?_, q H1 s1⟩
    unfold atI
    rw [hl, hj]
    exact hv
theorem chg_inv {x : Nat} {ks : List D} {f : D → Res D} {env' : Env} (h : chg x ks f env = .ok env') : ∃ d0 d1, env[x]? = some (some d0) ∧ atPath f ks d0 = .ok d1 ∧ env' = env.set x (some d1) := by
  unfold chg at h
  split at h
  · rename_i d0 e
    obtain ⟨d1, h1, h2⟩ := bind_inv h
    exact ⟨d0, d1, e, h1, (Res.ok.inj h2).symm⟩
  · cases h
theorem mutC_inv {x n c : Nat} {o : Option Fls} (h : mutC x n c fl = some o) : o = some fl ∧ 2 ≤ c ∧ n + 3 ≤ fl.getD x 0 ∧ fl.getD x 0 ≠ 9 ∧ fl.getD x 0 ≤ n + 1 + c := by
  unfold mutC at h
  split at h
  · rename_i hc; cases h; exact ⟨rfl, hc⟩
  · cases h
theorem Es.len_sem {es : Es} {ks : List D} : es.sem G env = .ok ks → es.len = ks.length := by
  intro h
  induction es using Es.rec (motive_1 := fun _ => True) (motive_3 := fun _ => True) (motive_4 := fun _ => True) generalizing ks with
  | nil => cases h; rfl
  | cons e es _ ih =>
    have h' : (e.sem G env).bind (fun d => (es.sem G env).bind fun ds => .ok (d :: ds)) = .ok ks := h
    obtain ⟨d, _, h1⟩ := bind_inv h'
    obtain ⟨ds, h2, h3⟩ := bind_inv h1
    cases h3
    show es.len + 1 = ds.length + 1
    rw [ih h2]
  | _ => trivial
theorem chg_run {x : Nat} {ks : List D} {f : D → Res D} {k : Env → Res Out} (h : Os p R W Dn H0 o ow H ((chg x ks f env).bind k)) (hf : ∀ c fs c', f c ≠ .exc c' fs) : ∃ env', chg x ks f env = .ok env' ∧ Os p R W Dn H0 o ow H (k env') := by
  cases hc : chg x ks f env with
  | ok env' => rw [hc] at h; exact ⟨env', rfl, h⟩
  | stuck => rw [hc] at h; exact h.elim
  | exc c fs =>
    exfalso
    have at_ : ∀ (ks : List D) (d : D), atPath f ks d ≠ .exc c fs := by
      intro ks
      induction ks with
      | nil => intro d z; exact hf _ _ _ z
      | cons k ks ih =>
        intro d z
        unfold atPath at z
        split at z
        · rename_i heq; cases heq
        · rename_i i ks' xs heq
          cases heq
          split at z
          · split at z
            · rcases bind_exc z with z | ⟨a, _, z⟩
              · exact ih _ z
              · cases z
            · cases z
          · cases z
        · cases z
    unfold chg at hc
    split at hc
    · rcases bind_exc hc with z | ⟨a, _, z⟩
      · exact at_ _ _ z
      · cases z
    · cases hc
theorem appD_ne {d : D} : ∀ c fs c', appD d c ≠ .exc c' fs := fun c fs c' h => by
  cases c <;> first | cases h | skip
  rename_i xs
  have h' : (if xs.length < line then Res.ok (D.lst (xs ++ [d])) else .stuck) = Res.exc c' fs := h
  split at h' <;> cases h'
theorem setD_ne {i d : D} : ∀ c fs c', setD i d c ≠ .exc c' fs := fun c fs c' h => by
  cases c <;> first | cases h | skip
  rename_i xs
  cases i <;> first | cases h | skip
  rename_i k
  cases hj : ixN xs.length k <;> simp [setD, hj] at h
theorem dputD_ne {i d : D} : ∀ c fs c', dputD i d c ≠ .exc c' fs := fun c fs c' h => by
  cases c <;> first | cases h | skip
  rename_i kvs
  cases hk : keyD i with
  | none => simp [dputD, hk] at h
  | some ks =>
    have h' : (match keyD i with | some ks => if kvs.length < line then Res.ok (D.dic (putD kvs ks d)) else .stuck | none => .stuck) = Res.exc c' fs := h
    rw [hk] at h'
    simp only at h'
    split at h' <;> cases h'
theorem clrD_ne : ∀ c fs c', clrD c ≠ .exc c' fs := fun c fs c' h => by
  cases c <;> cases h
theorem t_app {K : PySem.W.Frag} {x : Nat} {pe : Es} {e : E} (hs : shortP pe = true) (hr : ∀ f, 2 ≤ rc f ∧ rc f ≤ 9) (h : tS p G rc R W (.app x pe e) Dn σ H) : tDrop (tBM K "list" rAppend (tP p G rc W K x pe) (tCons (tE p G rc W e) tNil)) Dn σ H := by
  obtain ⟨H0, env, fl, ow, o, eo, ⟨ht, hz⟩, h⟩ := h
  obtain ⟨rfl, m2, m3, m9, m5⟩ := mutC_inv ht
  obtain ⟨ks, hk, h⟩ := Os.noexc h
  rw [Es.len_sem hk] at m3 m5
  obtain ⟨d, hd, h⟩ := Os.noexc h
  obtain ⟨env', hc, f, ef, h⟩ := chg_run h appD_ne
  cases ef
  obtain ⟨d0, d1, e1, e2, rfl⟩ := chg_inv hc
  obtain ⟨a, vs, w1, w2, w3, w4⟩ := eo.app e1 e2 m3 m9 m5 (E.cls_le hr e fl)
  refine way_path hs hr eo.er hk e2 w1 fun H1 s1 => ⟨.inl ⟨rfl, vs, SqL.of (s1 _ _ w2)⟩, ?_⟩
  refine ⟨env, fl, _, (eo.same s1).er, ?_⟩
  rw [hd]
  intro u H2 s2 val _
  refine ⟨a, vs, u, rfl, rfl, s2 _ _ (s1 _ _ w2), Nat.lt_of_lt_of_le w3 (by rw [sizeLine_eq]; decide), ?_⟩
  obtain ⟨ow3, eo3, st3⟩ := w4 H2 u (s1.trans s2) (val.since s1)
  exact h σ ow3 _ eo3 st3
theorem t_clr {K : PySem.W.Frag} {x : Nat} {pe : Es} (hs : shortP pe = true) (hr : ∀ f, 2 ≤ rc f ∧ rc f ≤ 9) (h : tS p G rc R W (.clr x pe) Dn σ H) : tDrop (tBM0 K "list" rClear (tP p G rc W K x pe)) Dn σ H := by
  obtain ⟨H0, env, fl, ow, o, eo, ⟨ht, hz⟩, h⟩ := h
  obtain ⟨rfl, m2, m3, m9, m5⟩ := mutC_inv ht
  obtain ⟨ks, hk, h⟩ := Os.noexc h
  rw [Es.len_sem hk] at m3 m5
  obtain ⟨env', hc, f, ef, h⟩ := chg_run h clrD_ne
  cases ef
  obtain ⟨d0, d1, e1, e2, rfl⟩ := chg_inv hc
  obtain ⟨a, vs, w1, w2, w3⟩ := eo.clr e1 e2 m3 m9
  refine way_path hs hr eo.er hk e2 w1 fun H1 s1 => ⟨.inl ⟨rfl, vs, SqL.of (s1 _ _ w2)⟩, a, vs, rfl, rfl, s1 _ _ w2, ?_⟩
  obtain ⟨ow3, eo3, st3⟩ := w3 H1 s1
  exact h σ ow3 _ eo3 st3
theorem insD_ne {i d : D} : ∀ c fs c', insD i d c ≠ .exc c' fs := fun c fs c' h => by
  cases c <;> first | cases h | skip
  rename_i xs
  cases i <;> first | cases h | skip
  rename_i k
  have h' : (if 0 ≤ k ∧ k < 2 ^ 62 ∧ xs.length < line then Res.ok (D.lst (xs.take k.toNat ++ [d] ++ xs.drop k.toNat)) else .stuck) = Res.exc c' fs := h
  split at h' <;> cases h'
theorem popD_ne {i : D} : ∀ c fs c', popD i c ≠ .exc c' fs := fun c fs c' h => by
  cases c <;> first | cases h | skip
  rename_i xs
  cases i <;> first | cases h | skip
  rename_i k
  cases hj : ixN xs.length k with
  | none => simp [popD, hj] at h
  | some j => by_cases z : xs.length < line <;> simp [popD, hj, z] at h
def rIns : V → List V → Hp → VK → Prop := fun x vs H Q => ∃ (l : Addr) (xs : List V) (i : Int) (y : V), x = .ref l ∧ vs = [.int i, y] ∧ H l = some (.lst xs) ∧ xs.length < sizeLine ∧ 0 ≤ i ∧ i < 2 ^ 63 ∧
    Q .non (upd H l (.lst (xs.take i.toNat ++ [y] ++ xs.drop i.toNat)))
theorem t_ins {K : PySem.W.Frag} {x : Nat} {pe : Es} {i e : E} (hs : shortP pe = true) (hr : ∀ f, 2 ≤ rc f ∧ rc f ≤ 9) (h : tS p G rc R W (.ins x pe i e) Dn σ H) : tDrop (tBM K "list" rIns (tP p G rc W K x pe) (tCons (tE p G rc W i) (tCons (tE p G rc W e) tNil))) Dn σ H := by
  obtain ⟨H0, env, fl, ow, o, eo, ⟨ht, hz⟩, h⟩ := h
  unfold S.tr at ht
  split at ht
  · rename_i me
    obtain ⟨rfl, m2, m3, m9, m5⟩ := mutC_inv ht
    obtain ⟨ks, hk, h⟩ := Os.noexc h
    rw [Es.len_sem hk] at me
    obtain ⟨ki, hi, h⟩ := Os.noexc h
    obtain ⟨d, hd, h⟩ := Os.noexc h
    obtain ⟨env', hc, f, ef, hh⟩ := chg_run h insD_ne
    cases ef
    obtain ⟨d0, d1, e1, e2, rfl⟩ := chg_inv hc
    obtain ⟨a, xs, vs, c', ec, w1, w2, rl, w4⟩ := eo.lch (fun c c' z => let ⟨xs, k, _, e, _⟩ := insD_inv z; ⟨xs, e⟩) e1 e2 me m9
    obtain ⟨xs', k, rfl, ex, z1, z2, z3, rfl⟩ := insD_inv ec
    cases ex
    refine way_path hs hr eo.er hk e2 w1 fun H1 s1 => ⟨.inl ⟨rfl, vs, SqL.of (s1 _ _ w2)⟩, ?_⟩
    refine ⟨env, fl, _, (eo.same s1).er, ?_⟩
    rw [hi]
    intro y H2 s2 vi _
    have hy : y = .int k := vi.rep (E.cls_le hr i fl) (eo.same s1).ok
    subst hy
    refine ⟨env, fl, _, ((eo.same s1).same s2).er, ?_⟩
    rw [hd]
    intro u H3 s3 val _
    have s := (s1.trans s2).trans s3
    refine ⟨a, vs, k, u, rfl, rfl, s _ _ w2, by rw [rl.length]; exact Nat.lt_of_lt_of_le z3 (by rw [sizeLine_eq]; decide), z1, by omega, ?_⟩
    have ru : Rep p H3 (avO H0 ow).a2 d u := by
      have := val.clo (m := 2) m2 (E.cls_le hr e fl) (.inl (Nat.le_refl 2)) ((eo.same s1).same s2).ok
      exact this.1
    have rl3 := RepL.keep (Keep.same (av := (avO H0 ow).a2) s) (fun b z => .inl z) xs rl
    obtain ⟨eo3, st3⟩ := w4 H3 _ (vs.take k.toNat ++ [u] ++ vs.drop k.toNat) rfl s (((rl3.take _).append (show RepL p H3 (avO H0 ow).a2 [d] [u] from ⟨u, [], rfl, ru, rfl⟩)).append (rl3.drop _))
    exact hh σ ow _ eo3 st3
  · cases ht
theorem t_pop {K : PySem.W.Frag} {x : Nat} {pe : Es} {i : E} (hs : shortP pe = true) (hr : ∀ f, 2 ≤ rc f ∧ rc f ≤ 9) (h : tS p G rc R W (.pop x pe i) Dn σ H) : tDrop (tBM K "list" rPopAt (tP p G rc W K x pe) (tCons (tE p G rc W i) tNil)) Dn σ H := by
  obtain ⟨H0, env, fl, ow, o, eo, ⟨ht, hz⟩, h⟩ := h
  unfold S.tr at ht
  split at ht
  · rename_i me
    obtain ⟨rfl, m2, m3, m9, m5⟩ := mutC_inv ht
    obtain ⟨ks, hk, h⟩ := Os.noexc h
    rw [Es.len_sem hk] at me
    obtain ⟨ki, hi, h⟩ := Os.noexc h
    obtain ⟨env', hc, f, ef, hh⟩ := chg_run h popD_ne
    cases ef
    obtain ⟨d0, d1, e1, e2, rfl⟩ := chg_inv hc
    obtain ⟨a, xs, vs, c', ec, w1, w2, rl, w4⟩ := eo.lch (fun c c' z => let ⟨xs, k, j, _, e, _⟩ := popD_inv z; ⟨xs, e⟩) e1 e2 me m9
    obtain ⟨xs', k, j, rfl, ex, z1, z3, rfl⟩ := popD_inv ec
    cases ex
    obtain ⟨q1, q2, q3, q4⟩ := ixN_seq z1
    have hl := rl.length
    have hl2 : xs.length < 1000000 := z3
    refine way_path hs hr eo.er hk e2 w1 fun H1 s1 => ⟨.inl ⟨rfl, vs, SqL.of (s1 _ _ w2)⟩, ?_⟩
    refine ⟨env, fl, _, (eo.same s1).er, ?_⟩
    rw [hi]
    intro y H2 s2 vi _
    have hy : y = .int k := vi.rep (E.cls_le hr i fl) (eo.same s1).ok
    subst hy
    have s := s1.trans s2
    refine ⟨a, vs, k, j, vs[j], rfl, rfl, s _ _ w2, by omega, by omega, by rw [hl]; exact q1, List.getElem?_eq_getElem (by omega), ?_⟩
    have rl3 := RepL.keep (Keep.same (av := (avO H0 ow).a2) s) (fun b z => .inl z) xs rl
    obtain ⟨eo3, st3⟩ := w4 H2 _ (vs.eraseIdx j) rfl s (rl3.erase j)
    exact hh σ ow _ eo3 st3
  · cases ht
/-- a store at a place, the value first -/
theorem t_set {K : PySem.W.Frag} {x : Nat} {pe : Es} {i e : E} (hs : shortP pe = true) (hr : ∀ f, 2 ≤ rc f ∧ rc f ≤ 9) (h : tS p G rc R W (.set x pe i e) Dn σ H) : tAsg (tE p G rc W e) (gSub (tP p G rc W K x pe) (tE p G rc W i) rSetL) Dn σ H := by
  obtain ⟨H0, env, fl, ow, o, eo, ⟨ht, hz⟩, h⟩ := h
  obtain ⟨rfl, m2, m3, m9, m5⟩ := mutC_inv ht
  obtain ⟨ks, hk, h⟩ := Os.noexc h
  rw [Es.len_sem hk] at m3 m5
  obtain ⟨ki, hi, h⟩ := Os.noexc h
  refine ⟨env, fl, _, eo.er, (Os.bind eo.base h).mono fun d _ h u H1 s1 val _ => ?_⟩
  obtain ⟨env', hc, f, ef, hz⟩ := chg_run h setD_ne
  cases ef
  obtain ⟨d0, d1, e1, e2, rfl⟩ := chg_inv hc
  obtain ⟨a, vs, k, j, rfl, w1, w2, w3, w4⟩ := eo.setAt e1 e2 m3 m9 m5 (E.cls_le hr e fl)
  refine way_path hs hr (eo.same s1).er hk e2 (w1.same s1) fun H2 s2 => ?_
  refine ⟨env, fl, _, ((eo.same s1).same s2).er, ?_⟩
  rw [hi]
  intro y H3 s3 vi _
  have hy : y = .int k := vi.rep (E.cls_le hr i fl) ((eo.same s1).same s2).ok
  subst hy
  refine ⟨a, vs, k, j, rfl, rfl, s3 _ _ (s2 _ _ (s1 _ _ w2)), w3, ?_⟩
  obtain ⟨ow3, eo3, st3⟩ := w4 H1 H3 u s1 (s2.trans s3) val
  exact hz σ ow3 _ eo3 st3
theorem t_put {K : PySem.W.Frag} {x : Nat} {pe : Es} {i e : E} (hs : shortP pe = true) (hr : ∀ f, 2 ≤ rc f ∧ rc f ≤ 9) (h : tS p G rc R W (.put x pe i e) Dn σ H) : sDPut (tP p G rc W K x pe) (tE p G rc W i) (tE p G rc W e) Dn σ H := by
  obtain ⟨H0, env, fl, ow, o, eo, ⟨ht, hz⟩, h⟩ := h
  unfold S.tr at ht
  split at ht
  · rename_i me
    obtain ⟨rfl, m2, m3, m9, m5⟩ := mutC_inv ht
    obtain ⟨ks, hk, h⟩ := Os.noexc h
    rw [Es.len_sem hk] at m3 m5 me
    obtain ⟨ki, hi, h⟩ := Os.noexc h
    refine ⟨env, fl, _, eo.er, (Os.bind eo.base h).mono fun d _ h u H1 s1 val _ => ?_⟩
    obtain ⟨env', hc, f, ef, h⟩ := chg_run h dputD_ne
    cases ef
    obtain ⟨d0, d1, e1, e2, rfl⟩ := chg_inv hc
    obtain ⟨a, ws, kk, hkk, w1, w2, w3, w4⟩ := eo.dput e1 e2 me m9 m5 (E.cls_le hr e fl)
    refine way_path hs hr (eo.same s1).er hk e2 (w1.same s1) fun H2 s2 => ?_
    refine ⟨env, fl, _, ((eo.same s1).same s2).er, ?_⟩
    rw [hi]
    intro y H3 s3 vi _
    obtain ⟨b, rfl, hb⟩ := (vi.rep (E.cls_le hr i fl) ((eo.same s1).same s2).ok).key hkk
    obtain ⟨ow3, eo3, st3⟩ := w4 H1 H3 u s1 (s2.trans s3) val
    exact ⟨a, _, rfl, DPut.t (s3 _ _ (s2 _ _ (s1 _ _ w2))) hb (Nat.lt_of_lt_of_le w3 (by rw [sizeLine_eq]; decide)), h σ ow3 _ eo3 st3⟩
  · cases ht
end
end Tr

/-! What statements mean, the machine does: what is raised, what is caught. -/
namespace Tr
open PySem PySem.Spec PyProof.Rows L2
theorem _root_.L2.PS.imp {X : Cx} {e : Stmt} {t t' : TS} (h : PS X e t) (w : ∀ D σ H, t' D σ H → t D σ H) : PS X e t' := ⟨fun pins s σ H D I q => h.run pins s σ H D I (w _ _ _ q)⟩
theorem _root_.L2.PSs.imp {X : Cx} {e : List Stmt} {t t' : TS} (h : PSs X e t) (w : ∀ D σ H, t' D σ H → t D σ H) : PSs X e t' := ⟨fun pins s σ H D I q => h.run pins s σ H D I (w _ _ _ q)⟩
section
variable {X : Cx} {p : Pz} {T : Nm} {N : List Str} {G : Gam} {rc : Nat → Nat} {kk R : Nat} {W : WX} {Dn : Ends} {H0 H H' : Hp} {o : Option Fls} {ow ow' : Hold} {σ : L2.St} {env : Env} {fl : Fls}
theorem Good.tr (g : Good p T G rc kk W X) {pn : List (Addr × Obj)} {xe : Value → Shared → Prop} {W' : WX} (tk : Takes (X.tr pn xe) W') : Good p T G rc kk W' (X.tr pn xe) :=
  ⟨g.calm, g.nd, g.kq, g.room, tk, g.blt, g.rcl, g.fn, g.fnM, g.fnI, g.tok, g.xok, g.xmg, g.con, g.xin⟩
theorem Good1.suite (g : Good1 p T X) (a : Addr) (pn : List (Addr × Obj)) : Good1 p T (X.suite a pn) := ⟨g.nd, g.kq, g.blt, g.xok, g.xmg⟩
/-! ### raise -/
theorem ps_rse (g : Good p T G rc kk W X) {c : Nat} {n m : Str} {j : Nat} {p1 p2 q pos : Pos} (h1 : T.x[c]? = some n) (h2 : c ∈ T.rs) (h3 : T.xf[c]? = some []) (h4 : glB X.env.scope n = true) (h5 : nmB n = true) :
    PS X (.Raise (some (.Call (.Name n p1) [.Constant (.str m) j q] [] p2)) none pos) (fun _ σ H => W (.ref (p.cad c)) none σ H) := by
  have hc := g.xok.rq c h2
  obtain ⟨k1, k2, k3⟩ := g.xok.kp c n h1
  have ra := g.xok.ra c hc
  exact ps_raise g.calm g.tk (pmk_own F.excBase_ValueError (by rw [g.kq]; exact g.xok.raw c hc h3) (g.xmg c n h1) (by rw [g.kq]; exact k1) (raises_own (by rw [g.kq]; exact ra.sub) (by rw [g.kq]; exact k3)) (gl_of h4) (nm_of h5).1)
theorem t_rse (x : Xok p T) {c : Nat} (h2 : c ∈ T.rs) (h : tS p G rc R W (.rse c) Dn σ H) : W (.ref (p.cad c)) none σ H := by
  obtain ⟨H0, env, fl, ow, o, eo, ht, h⟩ := h
  exact h _ none σ H eo.base ⟨rfl, .inl ⟨rfl, rfl⟩, x.rq c h2⟩
theorem ps_rsf (g : Good p T G rc kk W X) {c : Nat} {n : Str} {fs : List Str} {es : Es} {y : Expr} {ys : List Expr} {p1 p2 pos : Pos} (h1 : T.x[c]? = some n) (h2 : c ∈ T.rs) (h3 : T.xf[c]? = some fs) (hne : fs ≠ []) (hle : fs.length ≤ 10) (h4 : glB X.env.scope n = true) (h5 : nmB n = true)
    (hp : ∀ z ∈ y :: ys, plainX z = true) (he : PA X (y :: ys) (tEs p G rc W es)) : PS X (.Raise (some (.Call (.Name n p1) (y :: ys) [] p2)) none pos) (tS p G rc R W (.rsf c fs es)) := by
  have hc := g.xok.rq c h2
  obtain ⟨k, fI, fd, hk, i1, i2, hb, F⟩ := g.xin c h2 fs h3 hne
  have O := g.xok.oex c hc fs h3 hne
  rw [← g.kq] at O
  refine (ps_raise g.calm g.tk (pmk_oex (CX := L2.CX X.prog X.w) (dvs := []) O i1 i2 F (g.room.mono hk) hb .nil (fun pins σ H s e s' I c => (noCXe c).elim) (gl_of h4) (g.xmg c n h1) he (nm_of h5).1 (star_cons (hp y List.mem_cons_self)) (star_any fun z hz => hp z (List.mem_cons_of_mem _ hz)))).imp fun D σ H q => ?_
  obtain ⟨H0, env, fl, ow, o, eo, ht, q⟩ := q
  refine ⟨env, fl, _, eo.er, (Os.bind eo.base q).mono fun ds _ q vs H1 s1 el => ?_⟩
  have cl := el.cloL eo.er.ok (Es.cls_le g.rcl es fl)
  cases em : mkFs fs ds with
  | none => rw [em] at q; exact q.elim
  | some gf =>
    rw [em] at q
    obtain ⟨lv, hz⟩ := mkFs_zip em cl.1
    refine ⟨by rw [lv]; omega, fun a na => ?_⟩
    rw [List.append_nil]
    refine ⟨a, vs, rfl, lv, upd_same, fun d gs H2 nd e1 e2 keep hl => ⟨rfl, d, gs, e1, e2, ?_, ?_⟩⟩
    · by_cases z : d = a
      · rw [z, upd_same] at nd; cases nd
      · rw [upd_ne z] at nd; exact nd
    · have nda : d ≠ a := fun z => by rw [z, upd_same] at nd; cases nd
      have nd1 : H1 d = none := by rw [upd_ne nda] at nd; exact nd
      refine q _ (some d) σ _ (fun b w e => ?_) ⟨rfl, .inr ⟨d, gs, rfl, upd_same, fun f i z => hl _ _ (hz f i z)⟩, hc⟩
      have e' := s1 _ _ (eo.base _ _ e)
      have ba : b ≠ a := ne_of_none e' na
      have bd : b ≠ d := ne_of_none e' nd1
      rw [upd_ne bd, del_ne ba]
      exact keep b w (by rw [upd_ne ba]; exact e') ba
/-! ### an except suite -/
def tEh (p : Pm) : Eh → TE
  | .v i => tVar i
  | .isX cs _ i => tIsX p (isXD cs) (tVar i)
  | .isVE i => tIsX p isVED (tVar i)
  | .and a b => tAndV (tEh p a) (tEh p b)
def tHs (p : Pm) : List (Nat × Eh) → TS
  | [] => tNext
  | (i, e) :: r => tSeq (tAsg (tEh p e) (gName i)) (tHs p r)
theorem tVar_mono {i : Nat} {Q Q' : VK} (w : ∀ v H, Q v H → Q' v H) (h : tVar i σ H Q) : tVar i σ H Q' := by
  obtain ⟨v, e, q⟩ := h
  exact ⟨v, e, w _ _ q⟩
theorem eh_ok {Y : Cx} (g : Good1 p T Y) (hN : Y.N = N) : ∀ (e : Eh) (x : Expr), chkEh T N e Y.env.scope x = true → PE Y x (tEh p e) ∧ plainX x = true
  | .v i, x, h => by
    unfold chkEh at h
    split at h
    · rename_i n hn
      obtain ⟨pos, rfl⟩ := asName_inv hn
      obtain ⟨h1, h2, h3⟩ := and3 h
      exact ⟨pe_var (by rw [hN]; exact of_decide_eq_true h1) (vis_of h2) (nm_of h3).1 (nm_of h3).2, rfl⟩
    · cases h
  | .isX cs tp i, x, h => by
    unfold chkEh at h
    split at h
    · rename_i n y z hc
      obtain ⟨q0, pos, rfl⟩ := asCall_inv hc
      obtain ⟨h, h4⟩ := and2 h
      obtain ⟨h1, h2, h3⟩ := and3 h
      split at h3
      · rename_i m hm
        obtain ⟨q1, rfl⟩ := asName_inv hm
        obtain ⟨k1, k2, k3⟩ := and3 h3
        exact ⟨is_any g (pe_var (by rw [hN]; exact of_decide_eq_true k1) (vis_of k2) (nm_of k3).1 (nm_of k3).2) (of_decide_eq_true h1) h2 rfl h4 tVar_mono, rfl⟩
      · cases h3
    · cases h
  | .isVE i, x, h => by
    unfold chkEh at h
    split at h
    · rename_i n y z hc
      obtain ⟨q0, pos, rfl⟩ := asCall_inv hc
      obtain ⟨h, h4⟩ := and2 h
      obtain ⟨h1, h2, h3⟩ := and3 h
      split at h3
      · rename_i m hm
        obtain ⟨q1, rfl⟩ := asName_inv hm
        obtain ⟨k1, k2, k3⟩ := and3 h3
        exact ⟨isVE_any g (pe_var (by rw [hN]; exact of_decide_eq_true k1) (vis_of k2) (nm_of k3).1 (nm_of k3).2) (of_decide_eq_true h1) h2 rfl h4 tVar_mono, rfl⟩
      · cases h3
    · cases h
  | .and a b, x, h => by
    unfold chkEh at h
    split at h
    · rename_i l r hb
      obtain ⟨h1, h2⟩ := and2 h
      obtain ⟨i1, i2⟩ := eh_ok g hN a l h1
      obtain ⟨j1, j2⟩ := eh_ok g hN b r h2
      rcases asBool_inv hb with ⟨pos, rfl⟩ | ⟨y, z, q, pos, rfl, rfl⟩
      · exact ⟨pe_and i1 (pe_one j1), rfl⟩
      · exact ⟨pe_and i1 j1, rfl⟩
    · cases h
theorem suite_ok {Y : Cx} (g : Good1 p T Y) (hN : Y.N = N) (fn : ∀ n, True → Y.fn n = true ∨ Y.env.scope.names.lookup n = some .local) : ∀ (hh : List (Nat × Eh)) (ss : List Stmt), chkH T N hh Y.env.scope ss = true → PSs Y ss (tHs p hh)
  | [], [], _ => pss_nil
  | [], _ :: _, h => by unfold chkH at h; cases h
  | (i, e) :: hh, [], h => by unfold chkH at h; cases h
  | (i, e) :: hh, s :: ss, h => by
    unfold chkH at h
    obtain ⟨h1, h2⟩ := and2 h
    split at h1
    · rename_i x px v hs
      obtain ⟨pos, rfl⟩ := asAsg_inv hs
      simp only [Bool.and_eq_true, decide_eq_true_eq] at h1
      obtain ⟨⟨⟨k1, k2⟩, k3⟩, k4⟩ := h1
      have nc : isComp v = false := by cases z : isComp v <;> rw [z] at k4 <;> first | rfl | cases k4
      have sw : swapsWith v (some (.Name x px)) pos.line Y.env = pure false := by cases v <;> first | rfl | cases nc
      exact pss_cons (ps_set g.nd (by rw [hN]; exact k1) (locB_of k2) (eh_ok g hN e v k3).1 sw (fn x trivial)) (suite_ok g hN fn hh ss h2)
    · cases h1
theorem Cl.any {c : Nat} {A : Avs} {pos : Addr → List Nat → Prop} {d : D} {v : V} (h : Cl p H c A pos d v) : Rep p H nobody d v := by
  unfold Cl at h
  split at h
  · exact h.2.any
  · split at h
    · exact h.any
    · split at h
      · exact h.any
      · exact Own.rep _ _ d v (fun _ _ e => e) (fun a z => z.elim) (fun a r _ _ z => z.elim) h
/-- what the suite's terms mean -/
theorem eh_var (eo : Eo p H0 fl env σ ow H) {i : Nat} {d : D} (e : getD' env i = .ok d) : ∃ v, σ[i]? = some (some v) ∧ Rep p H nobody d v := by
  unfold getD' at e
  split at e
  · rename_i x ex
    cases e
    obtain ⟨v, ev, c⟩ := eo.slot i _ ex
    exact ⟨v, ev, c.any⟩
  · cases e
theorem eh_sem : ∀ (e : Eh) {H : Hp} {d : D} {Q : VK}, Eo p H0 fl env σ ow H → e.sem env = .ok d → (∀ v H', Same H H' → Rep p H' nobody d v → Q v H') → tEh p e σ H Q
  | .v i, H, d, Q, eo, e, fin => by
    obtain ⟨v, ev, r⟩ := eh_var eo e
    exact ⟨v, ev, fin v H (fun _ _ z => z) r⟩
  | .isX cs tp i, H, d, Q, eo, e, fin => by
    obtain ⟨x, e1, e2⟩ := bind_inv (show (getD' env i).bind (isXD cs) = .ok d from e)
    obtain ⟨v, ev, r⟩ := eh_var eo e1
    refine ⟨v, ev, x, nobody, r, fun H2 s2 => ?_⟩
    rcases isXD_b cs x with z | ⟨b, z⟩
    · rw [z] at e2; cases e2
    · rw [z] at e2; cases e2
      exact ⟨b, z, fin _ H2 s2 rfl⟩
  | .isVE i, H, d, Q, eo, e, fin => by
    obtain ⟨x, e1, e2⟩ := bind_inv (show (getD' env i).bind isVED = .ok d from e)
    obtain ⟨v, ev, r⟩ := eh_var eo e1
    refine ⟨v, ev, x, nobody, r, fun H2 s2 => ?_⟩
    rcases isVED_b x with z | ⟨b, z⟩
    · rw [z] at e2; cases e2
    · rw [z] at e2; cases e2
      exact ⟨b, z, fin _ H2 s2 rfl⟩
  | .and a b, H, d, Q, eo, e, fin => by
    have e' : (a.sem env).bind (fun d => match d with | .bl true => truthR (b.sem env) | .bl false => .ok (.bl false) | _ => .stuck) = .ok d := e
    obtain ⟨x, e1, e2⟩ := bind_inv e'
    refine eh_sem a eo e1 fun v H1 s1 r1 => ?_
    cases x with
    | bl i =>
      obtain rfl : v = .bl i := r1
      refine ⟨i, rfl, ?_⟩
      cases i with
      | true =>
        rw [if_pos rfl]
        obtain ⟨y, f1, f2⟩ := bind_inv (show (b.sem env).bind (fun d => match d with | .bl b => Res.ok (D.bl b) | _ => .stuck) = .ok d from e2)
        cases y with
        | bl j => cases f2; exact eh_sem b (eo.same s1) f1 fun u H2 s2 r2 => fin u H2 (s1.trans s2) r2
        | _ => cases f2
      | false => rw [if_neg Bool.false_ne_true]; cases e2; exact fin _ H1 s1 rfl
    | _ => cases e2
theorem Eo.unset {i : Nat} (h : Eo p H0 fl env σ ow H) (hz : p.fz i = none) : Eo p H0 fl (env.set i none) (σ.set i none) ow H := by
  refine ⟨h.base, h.fresh, by simp [h.len], by simp [h.fln], h.fl9, fun j d e => ?_, fun j w e => (by rw [List.getElem?_set_ne (fun z => by rw [← z, hz] at e; cases e)]; exact h.fz j w e), fun a o z e => (by rw [List.length_set]; exact h.fc a o z e)⟩
  by_cases z : j = i
  · subst z
    by_cases hl : j < env.length
    · rw [List.getElem?_set_self hl] at e; cases e
    · rw [List.getElem?_eq_none (by simpa using hl)] at e; cases e
  · rw [List.getElem?_set_ne (Ne.symm z)] at e
    obtain ⟨v, ev, c⟩ := h.slot j d e
    exact ⟨v, by rw [List.getElem?_set_ne (Ne.symm z)]; exact ev, c⟩
theorem set_same {i : Nat} (hi : i < fl.length) (h9 : fl.getD i 0 = 9) : fl.set i 9 = fl := by
  rw [List.getD_eq_getElem?_getD, List.getElem?_eq_getElem hi] at h9
  have : fl[i] = 9 := h9
  rw [← this]
  exact List.set_getElem_self hi
theorem runH_noexc {c : Nat} {fs : List (Str × Int)} : ∀ {h : List (Nat × Eh)} {env : Env}, (∀ e env, Eh.sem e env ≠ .exc c fs) → runH h env ≠ .exc c fs
  | [], _, _, z => by cases z
  | (i, e) :: r, env, ne, z => by
    rcases bind_exc (show (e.sem env).bind (fun d => if d.pure = true then runH r (env.set i (some d)) else .stuck) = .exc c fs from z) with z | ⟨a, _, z⟩
    · exact ne e env z
    · split at z
      · exact runH_noexc ne z
      · cases z
theorem getD'_ne {i : Nat} {c : Nat} {fs : List (Str × Int)} : getD' env i ≠ .exc c fs := fun z => by
  unfold getD' at z
  split at z <;> cases z
theorem eh_noexc {c : Nat} {fs : List (Str × Int)} : ∀ (e : Eh) (env : Env), e.sem env ≠ .exc c fs
  | .v i, env, z => getD'_ne z
  | .isX cs tp i, env, z => by
    rcases bind_exc (show (getD' env i).bind (isXD cs) = .exc c fs from z) with z | ⟨a, _, z⟩
    · exact getD'_ne z
    · rcases isXD_b cs a with q | ⟨b, q⟩ <;> (rw [q] at z; cases z)
  | .isVE i, env, z => by
    rcases bind_exc (show (getD' env i).bind isVED = .exc c fs from z) with z | ⟨a, _, z⟩
    · exact getD'_ne z
    · rcases isVED_b a with q | ⟨b, q⟩ <;> (rw [q] at z; cases z)
  | .and a b, env, z => by
    rcases bind_exc (show (a.sem env).bind (fun d => match d with | .bl true => truthR (b.sem env) | .bl false => .ok (.bl false) | _ => .stuck) = .exc c fs from z) with z | ⟨x, _, z⟩
    · exact eh_noexc a env z
    · cases x with
      | bl i =>
        cases i with
        | true =>
          rcases bind_exc (show (b.sem env).bind (fun d => match d with | .bl b => Res.ok (D.bl b) | _ => .stuck) = .exc c fs from z) with z | ⟨y, _, z⟩
          · exact eh_noexc b env z
          · cases y <;> cases z
        | false => cases z
      | _ => cases z
theorem tHs_sem {D' : Ends} : ∀ (h : List (Nat × Eh)) {H : Hp} {env env' : Env} {σ : L2.St}, Eo p H0 fl env σ ow H → (h.all fun z => decide (z.1 < fl.length) && decide (fl.getD z.1 0 = 9)) = true → (∀ z ∈ h, p.fz z.1 = none) → runH h env = .ok env' →
    (∀ σ' H', Same H H' → Eo p H0 fl env' σ' ow H' → D'.nx σ' H') → tHs p h D' σ H
  | [], H, env, env', σ, eo, _, _, e, fin => by
    cases e
    exact fin σ H (fun _ _ z => z) eo
  | (i, e) :: r, H, env, env', σ, eo, hz, hzz, er, fin => by
    obtain ⟨d, e1, e2⟩ := bind_inv (show (e.sem env).bind (fun d => if d.pure = true then runH r (env.set i (some d)) else .stuck) = .ok env' from er)
    rw [List.all_cons, Bool.and_eq_true, Bool.and_eq_true, decide_eq_true_eq, decide_eq_true_eq] at hz
    obtain ⟨⟨hi, h9⟩, hz⟩ := hz
    split at e2
    · rename_i hp
      refine eh_sem e eo e1 fun v H1 s1 rv => ?_
      have eo1 := (eo.same s1).put (c := 9) (.inr (.inr rfl)) hi (hzz (i, e) List.mem_cons_self) (show Clo p H1 9 _ d v from ⟨Rep.pure d hp rv, fun _ => hp⟩)
      rw [set_same hi h9] at eo1
      exact tHs_sem r eo1 hz (fun z hz => hzz z (List.mem_cons_of_mem _ hz)) e2 fun σ' H' s' eo' => fin σ' H' (s1.trans s') eo'
    · cases e2
theorem t_try {e : E} {x : Nat} {hh : List (Nat × Eh)} {c : Str} (kq : X.K = p.K) (xo : Xok p T) (h0 : T.x[0]? = some c) (hr : ∀ f, 2 ≤ rc f ∧ rc f ≤ 9) (h : tS p G rc R W (.try_ e x hh) Dn σ H) :
    tDrop (tE p G rc (wHold X.K (.ref (p.cad 0)) x (tHs p hh) Dn) e) Dn σ H := by
  obtain ⟨H0, env, fl, ow, o, eo, ⟨ht, hfz⟩, h⟩ := h
  unfold S.tr at ht
  split at ht
  · rename_i hc
    cases ht
    obtain ⟨hx, h9, hz⟩ := hc
    have h : Os p R W Dn H0 (some fl) ow H (match e.sem G env with | .ok _ => .ok (.nx env) | .exc c fs => (runH hh (env.set x (some (.exc c fs)))).bind fun env' => .ok (.nx (env'.set x none)) | .stuck => .stuck) := h
    refine ⟨env, fl, _, eo.er, ?_⟩
    cases q : e.sem G env with
    | stuck => rw [q] at h; exact h.elim
    | ok d =>
      rw [q] at h
      intro v H1 s1 _ _
      obtain ⟨f, ef, h⟩ := h
      cases ef
      exact h σ ow H1 (eo.same s1) (.same s1)
    | exc k fs =>
      rw [q] at h
      intro cls dd H1 s1 xr
      obtain ⟨rfl, xd, hk⟩ := xr
      obtain ⟨k1, k2, k3⟩ := xo.kp 0 c h0
      obtain ⟨p1, p2⟩ := xo.pe (List.ne_nil_of_mem hk)
      have hs := xo.sub k hk 0 c h0
      refine ⟨?_, fun a na => ?_⟩
      · rw [kq]
        exact PySem.W.exm_ref p1 p2 k3 (by simpa using hs)
      · have s2 : Same H1 (upd H1 a (ExH (.ref (p.cad k)) dd a)) := same_upd na
        have eo1 := ((eo.same s1).same s2).put (c := 9) (.inr (.inr rfl)) hx (fz_none hfz (show (x == x || _) = true by rw [beq_self_eq_true]; rfl)) (show Clo p _ 9 _ (.exc k fs) (.ref a) from ⟨⟨a, dd, rfl, upd_same, xd.keep (av := nobody) (Keep.same s2), hk⟩, fun _ => rfl⟩)
        rw [set_same hx h9] at eo1
        cases qr : runH hh (env.set x (some (.exc k fs))) with
        | stuck =>
          have h : Os p R W Dn H0 (some fl) ow H ((runH hh (env.set x (some (.exc k fs)))).bind fun env' => .ok (.nx (env'.set x none))) := h
          rw [qr] at h; exact h.elim
        | exc c' fs' => exact absurd qr (runH_noexc eh_noexc)
        | ok env' =>
          have h : Os p R W Dn H0 (some fl) ow H ((runH hh (env.set x (some (.exc k fs)))).bind fun env' => .ok (.nx (env'.set x none))) := h
          rw [qr] at h
          obtain ⟨f, ef, h⟩ := h
          cases ef
          exact tHs_sem hh eo1 hz (fun z hz => fz_none hfz (show (x == z.1 || hh.any fun y => y.1 == z.1) = true by rw [Bool.or_eq_true]; exact .inr (List.any_eq_true.mpr ⟨z, hz, beq_self_eq_true z.1⟩))) qr fun σ' H' s' eo' => h _ ow H' (eo'.unset (fz_none hfz (show (x == x || _) = true by rw [beq_self_eq_true]; rfl))) (.same ((s1.trans s2).trans s'))
  · cases ht
end
end Tr

/-! A list in a list of one's own is lent to a name. -/
namespace Tr
open PySem PySem.Spec PyProof.Rows L2
section
variable {p : Pz} {H H' : Hp} {av av' : Addr → Prop} {pos pos' : Addr → List Nat → Prop}
/-- other places for the cells -/
theorem Own.re (q q' : List Nat) : ∀ (k : Nat) (s : List Nat) (d : D) (v : V), (∀ a r, pos a (q ++ r) → pos' a (q' ++ r)) → Own p H av pos k (q ++ s) d v → Own p H av pos' k (q' ++ s) d v
  | 0, s, d, v, _, h => h
  | k + 1, s, d, v, w, h => by
    cases d with
    | lst ds =>
      obtain ⟨a, vs, e, ha, hp, hl, hc⟩ := h
      refine ⟨a, vs, e, ha, w a s hp, hl, fun j d x e1 e2 => ?_⟩
      have := Own.re q q' k (s ++ [j]) d x w (by rw [← List.append_assoc]; exact hc j d x e1 e2)
      rw [← List.append_assoc] at this
      exact this
    | dic ds =>
      obtain ⟨a, vs, e, ha, hp, hl, hc⟩ := h
      refine ⟨a, vs, e, ha, w a s hp, hl, fun j c d c' x e1 e2 => ⟨(hc j c d c' x e1 e2).1, ?_⟩⟩
      have := Own.re q q' k (s ++ [j]) d x w (by rw [← List.append_assoc]; exact (hc j c d c' x e1 e2).2)
      rw [← List.append_assoc] at this
      exact this
    | _ => exact h
/-- a tree whose cells stay as they are -/
theorem Own.stay {av0 : Addr → Prop} (kp : Keep av0 H H') (wv : ∀ a, av0 a → av a) (w : ∀ a, av' a → av a ∨ H a = none) (q : List Nat) : ∀ (k : Nat) (s : List Nat) (d : D) (v : V), (∀ a r o, pos a (q ++ r) → H a = some o → H' a = some o ∧ pos' a (q ++ r)) →
    Own p H av pos k (q ++ s) d v → Own p H' av' pos' k (q ++ s) d v
  | 0, s, d, v, _, h => Rep.keep (kp.mono wv) w d h
  | k + 1, s, d, v, g, h => by
    cases d with
    | lst ds =>
      obtain ⟨a, vs, e, ha, hp, hl, hc⟩ := h
      obtain ⟨g1, g2⟩ := g a s _ hp ha
      refine ⟨a, vs, e, g1, g2, hl, fun j d x e1 e2 => ?_⟩
      have := Own.stay kp wv w q k (s ++ [j]) d x g (by rw [← List.append_assoc]; exact hc j d x e1 e2)
      rw [← List.append_assoc] at this
      exact this
    | dic ds =>
      obtain ⟨a, vs, e, ha, hp, hl, hc⟩ := h
      obtain ⟨g1, g2⟩ := g a s _ hp ha
      refine ⟨a, vs, e, g1, g2, hl, fun j c d c' x e1 e2 => ⟨(hc j c d c' x e1 e2).1, ?_⟩⟩
      have := Own.stay kp wv w q k (s ++ [j]) d x g (by rw [← List.append_assoc]; exact (hc j c d c' x e1 e2).2)
      rw [← List.append_assoc] at this
      exact this
    | _ => exact Rep.keep (kp.mono wv) w _ h
end
section
variable {p : Pz} {H0 H H' : Hp} {fl : Fls} {env : Env} {σ : L2.St} {ow : Hold}
/-- whose the cells are while the list at place j is lent -/
def lentO (ow : Hold) (x l j n : Nat) : Hold := fun a => match ow a with
  | some (i, r) => if i = l then (match r with | k :: s => if k = j then some (x, s) else some (n + l, r) | [] => some (n + l, [])) else if i = x then none else some (i, r)
  | none => none
/-- the cells of the list that stay -/
def lentC (p : Pz) (H : Hp) (ow : Hold) (l j n : Nat) : Addr → Option (HO × (Nat × List Nat)) := fun a => match p.fc a with
  | some y => some y
  | none => (match ow a with
    | some (i, r) => if i = l then (match r with | k :: _ => if k = j then none else (H a).map fun o => (o, (n + l, r)) | [] => (H a).map fun o => (o, (n + l, r))) else none
    | none => none)
/-- .. and behind it -/
def backO (p : Pz) (ow : Hold) (x l j n : Nat) : Hold := fun a => match p.fc a with
  | some _ => ow a
  | none => (match ow a with
    | some (i, r) => if i = x then some (l, j :: r) else if i = n + l then some (l, r) else if i = l then none else some (i, r)
    | none => none)
def lentZ (p : Pz) (x l : Nat) (w u : V) : Nat → Option V := fun i => if i = x then some w else if i = l then some u else p.fz i
theorem lentO_in {x l j n : Nat} {a : Addr} {s : List Nat} (h : ow a = some (l, j :: s)) : lentO ow x l j n a = some (x, s) := by unfold lentO; simp only [h, if_true]
theorem lentO_st {x l j n : Nat} {a : Addr} {r : List Nat} (h : ow a = some (l, r)) (hr : ∀ s, r ≠ j :: s) : lentO ow x l j n a = some (n + l, r) := by
  unfold lentO
  simp only [h, if_true]
  cases r with
  | nil => rfl
  | cons k s => simp only; rw [if_neg fun e => hr s (by rw [e])]
theorem lentO_ot {x l j n i : Nat} {a : Addr} {r : List Nat} (h : ow a = some (i, r)) (h1 : i ≠ l) (h2 : i ≠ x) : lentO ow x l j n a = some (i, r) := by unfold lentO; simp only [h, if_neg h1, if_neg h2]
theorem lentO_nn {x l j n : Nat} {a : Addr} (h : lentO ow x l j n a ≠ none) : ow a ≠ none := fun e => h (by unfold lentO; rw [e])
theorem lentC_st {l j n : Nat} {a : Addr} {r : List Nat} {o : HO} (h0 : p.fc a = none) (h : ow a = some (l, r)) (hr : ∀ s, r ≠ j :: s) (e : H a = some o) : lentC p H ow l j n a = some (o, (n + l, r)) := by
  unfold lentC
  simp only [h0, h, if_true]
  cases r with
  | nil => simp only [e, Option.map_some]
  | cons k s => simp only [e, Option.map_some]; rw [if_neg fun e => hr s (by rw [e])]
theorem lentC_inv {l j n : Nat} {a : Addr} {o : HO} {z : Nat × List Nat} (h : lentC p H ow l j n a = some (o, z)) : p.fc a = some (o, z) ∨ ∃ r, ow a = some (l, r) ∧ (∀ s, r ≠ j :: s) ∧ H a = some o ∧ z = (n + l, r) := by
  unfold lentC at h
  split at h
  · rename_i y e
    cases h
    exact .inl e
  · split at h
    · rename_i i r e
      split at h
      · rename_i ei
        subst ei
        cases r with
        | nil =>
          cases hH : H a with
          | none => rw [hH] at h; cases h
          | some u => rw [hH] at h; cases h; exact .inr ⟨[], e, fun s z => (by cases z), rfl, rfl⟩
        | cons k s =>
          simp only at h
          split at h
          · cases h
          · rename_i nk
            cases hH : H a with
            | none => rw [hH] at h; cases h
            | some u => rw [hH] at h; cases h; exact .inr ⟨k :: s, e, fun s' z => nk (by cases z; rfl), rfl, rfl⟩
      · cases h
    · cases h
theorem backO_nn {x l j n : Nat} {a : Addr} (h : backO p ow x l j n a ≠ none) : ow a ≠ none := fun e => h (by unfold backO; rw [e]; cases p.fc a <;> rfl)
theorem backO_fc {x l j n : Nat} {a : Addr} (h : p.fc a ≠ none) : backO p ow x l j n a = ow a := by
  unfold backO
  cases e : p.fc a with
  | none => exact absurd e h
  | some y => rfl
theorem backO_x {x l j n : Nat} {a : Addr} {r : List Nat} (h0 : p.fc a = none) (h : ow a = some (x, r)) : backO p ow x l j n a = some (l, j :: r) := by unfold backO; simp only [h0, h, if_true]
theorem backO_l {x l j n : Nat} {a : Addr} {r : List Nat} (h0 : p.fc a = none) (h : ow a = some (n + l, r)) (hx : n + l ≠ x) : backO p ow x l j n a = some (l, r) := by unfold backO; simp only [h0, h, if_neg hx, if_true]
theorem backO_ot {x l j n i : Nat} {a : Addr} {r : List Nat} (h : ow a = some (i, r)) (h1 : i ≠ x) (h2 : i ≠ n + l) (h3 : i ≠ l) : backO p ow x l j n a = some (i, r) := by
  unfold backO
  cases p.fc a with
  | some y => exact h
  | none => simp only [h, if_neg h1, if_neg h2, if_neg h3]
theorem Eo.lend {x l j : Nat} {ds c : List D} (h : Eo p H0 fl env σ ow H) (hx : x < fl.length) (hl : l < fl.length) (hxl : x ≠ l) (pz : p.fz x = none) (f4 : 4 ≤ fl.getD l 0) (f9 : fl.getD l 0 ≠ 9) (el : env[l]? = some (some (.lst ds))) (ej : ds[j]? = some (.lst c)) :
    ∃ a vs b, σ[l]? = some (some (.ref a)) ∧ H a = some (.lst vs) ∧ vs.length = ds.length ∧ vs[j]? = some (.ref b) ∧ ∀ H1, Same H H1 →
      Eo (p.fzd (lentZ p x l (.ref b) (.ref a)) (lentC p H1 ow l j env.length)) H0 ((fl.set l 1).set x (fl.getD l 0 - 1)) ((env.set l none).set x (some (.lst c))) (σ.set x (some (.ref b))) (lentO ow x l j env.length) H1 ∧
      ∀ (g : Fls) (env2 : Env) (σ2 : L2.St) (ow2 : Hold) (H2 : Hp) (c' : D), Eo (p.fzd (lentZ p x l (.ref b) (.ref a)) (lentC p H1 ow l j env.length)) H0 g env2 σ2 ow2 H2 → Stp (lentO ow x l j env.length) H1 ow2 H2 → env2[x]? = some (some c') → g.getD x 0 = fl.getD l 0 - 1 → x < g.length → l < g.length →
        ∃ ow3, Eo p H0 ((g.set l (fl.getD l 0)).set x 1) ((env2.set l (some (.lst (ds.set j c')))).set x none) σ2 ow3 H2 ∧ Stp ow H ow3 H2 := by
  have hle := (h.fl9 l hl).2
  obtain ⟨k, hk⟩ : ∃ k, fl.getD l 0 = k + 4 := ⟨fl.getD l 0 - 4, by omega⟩
  have lenE := h.fln
  have lenS := h.len
  obtain ⟨v, ev, cl⟩ := h.slot l _ el
  unfold Cl at cl
  rw [if_neg f9, if_neg (by omega), if_neg (by omega), hk] at cl
  obtain ⟨a, vs, rfl, ha, hpa, hlen, hch⟩ := cl
  have hjl : j < ds.length := (List.getElem?_eq_some_iff.mp ej).1
  have evj : vs[j]? = some vs[j] := List.getElem?_eq_getElem (by omega)
  have chj := hch j _ _ ej evj
  obtain ⟨b, us, eb, hb, hpb, hlb, hcb⟩ := id chj
  rw [eb] at evj chj
  refine ⟨a, vs, b, ev, ha, hlen, evj, fun H1 s => ?_⟩
  have nfc : ∀ {a : Addr} {i : Nat} {r : List Nat}, i < env.length → ow a = some (i, r) → p.fc a = none := fun {a i r} hi e => by
    cases q : p.fc a with
    | none => rfl
    | some y =>
      obtain ⟨o, z⟩ := y
      obtain ⟨_, g2, g3⟩ := h.fc a o z q
      rw [e] at g2; cases g2; exact absurd g3 (by simp; omega)
  have ne2 : ∀ {a : Addr}, (avO H0 (lentO ow x l j env.length)).a2 a → (avO H0 ow).a2 a := fun {a} z => z.imp lentO_nn id
  constructor
  · refine ⟨h.base.trans s, fun a z => ⟨(h.fresh a (lentO_nn z)).1, same_nn s (h.fresh a (lentO_nn z)).2⟩, by simp [lenS], by simp [lenE], fun i hi => ?_, fun i d he => ?_, fun i w e => ?_, fun a o z e => ?_⟩
    · rw [getD_set (by simpa using hx), getD_set hl]
      split
      · omega
      · split
        · omega
        · exact h.fl9 i (by simpa using hi)
    · rw [getD_set (by simpa using hx), getD_set hl]
      by_cases zx : i = x
      · subst zx
        rw [List.getElem?_set_self (by rw [List.length_set]; omega)] at he
        cases he
        rw [List.getElem?_set_self (by omega), if_pos rfl]
        refine ⟨.ref b, rfl, ?_⟩
        unfold Cl
        rw [if_neg (by omega), if_neg (by omega), if_neg (by omega), hk]
        have h1 := Own.re (pos' := fun a r => lentO ow i l j env.length a = some (i, r)) [j] [] (k + 1) [] _ _ (fun a r z => lentO_in z) chj
        exact Own.same _ _ _ _ s (fun a z => .inl (ne2 z)) (fun a r z _ => z) h1
      · rw [List.getElem?_set_ne (Ne.symm zx)] at he
        rw [List.getElem?_set_ne (Ne.symm zx), if_neg zx]
        by_cases zl : i = l
        · subst zl
          rw [List.getElem?_set_self (by omega)] at he
          cases he
        · rw [List.getElem?_set_ne (Ne.symm zl)] at he
          rw [if_neg zl]
          obtain ⟨w, ew, cw⟩ := h.slot i d he
          exact ⟨w, ew, Cl.same' s (fun a z => z.elim) (fun a z => .inl (lentO_nn z)) (fun a z => .inl (ne2 z)) (fun a r z _ => lentO_ot z zl zx) cw⟩
    · have e' : (if i = x then some (V.ref b) else if i = l then some (V.ref a) else p.fz i) = some w := e
      by_cases zx : i = x
      · rw [if_pos zx] at e'
        cases e'
        subst zx
        exact List.getElem?_set_self (by omega)
      · rw [if_neg zx] at e'
        rw [List.getElem?_set_ne (Ne.symm zx)]
        by_cases zl : i = l
        · rw [if_pos zl] at e'
          cases e'
          subst zl
          exact ev
        · rw [if_neg zl] at e'
          exact h.fz i w e'
    · rw [List.length_set, List.length_set]
      rcases lentC_inv e with e | ⟨r, e1, e2, e3, rfl⟩
      · obtain ⟨g1, g2, g3⟩ := h.fc a o z e
        exact ⟨s _ _ g1, lentO_ot g2 (by omega) (by omega), g3⟩
      · exact ⟨e3, lentO_st e1 e2, by simp⟩
  · intro g env2 σ2 ow2 H2 c' eo2 st ex hgx hxg hlg
    have frz : ∀ {a : Addr} {r : List Nat} {o : HO}, ow a = some (l, r) → (∀ s, r ≠ j :: s) → H a = some o → H2 a = some o ∧ ow2 a = some (env.length + l, r) ∧ env2.length ≤ env.length + l ∧ p.fc a = none := fun {a r o} e1 e2 e3 => by
      have f0 := nfc (by omega) e1
      obtain ⟨g1, g2, g3⟩ := eo2.fc a o (env.length + l, r) (lentC_st f0 e1 e2 (s _ _ e3))
      exact ⟨g1, g2, g3, f0⟩
    obtain ⟨a1, a2, a3, a4⟩ := frz hpa (fun s z => by cases z) ha
    have fl2 := eo2.fln
    have bx : ∀ {a : Addr} {r : List Nat}, ow2 a = some (x, r) → backO p ow2 x l j env.length a = some (l, j :: r) := fun {a r} e => by
      refine backO_x ?_ e
      cases q : p.fc a with
      | none => rfl
      | some y =>
        obtain ⟨o, z⟩ := y
        obtain ⟨_, g2, g3⟩ := eo2.fc a o z (by show lentC p H1 ow l j env.length a = _; unfold lentC; rw [q])
        rw [e] at g2; cases g2; exact absurd g3 (by simp; omega)
    have w2 : ∀ a, backO p ow2 x l j env.length a ≠ none → ow a ≠ none ∨ H a = none := fun a z => by
      rcases st.new a (backO_nn z) with z | z
      · exact .inl (lentO_nn z)
      · refine .inr ?_
        cases q : H a with
        | none => rfl
        | some o => rw [s _ _ q] at z; cases z
    have kp : Keep (fun a => lentO ow x l j env.length a ≠ none) H H2 := (Keep.same (av := fun a => lentO ow x l j env.length a ≠ none) s).trans st.keep fun a z => .inl z
    refine ⟨backO p ow2 x l j env.length, ⟨eo2.base, fun a z => eo2.fresh a (backO_nn z), by simp [eo2.len], by simp [eo2.fln], fun i hi => ?_, fun i d he => ?_, fun i w e => ?_, fun a o z e => ?_⟩, ⟨kp.mono fun a z => lentO_nn z, w2⟩⟩
    · rw [getD_set (by simpa using hxg), getD_set hlg]
      split
      · omega
      · split
        · omega
        · exact eo2.fl9 i (by simpa using hi)
    · rw [getD_set (by simpa using hxg), getD_set hlg]
      by_cases zx : i = x
      · subst zx
        rw [List.getElem?_set_self (by rw [List.length_set]; omega)] at he
        cases he
      · rw [List.getElem?_set_ne (Ne.symm zx)] at he
        rw [if_neg zx]
        by_cases zl : i = l
        · subst zl
          rw [List.getElem?_set_self (by omega)] at he
          cases he
          rw [if_pos rfl]
          have ez : σ2[i]? = some (some (.ref a)) := eo2.fz i (.ref a) (by show (if i = x then _ else _) = _; rw [if_neg zx, if_pos rfl])
          refine ⟨.ref a, ez, ?_⟩
          unfold Cl
          rw [if_neg f9, if_neg (by omega), if_neg (by omega), hk]
          refine ⟨a, vs, rfl, a1, backO_l a4 a2 (by omega), by rw [List.length_set]; exact hlen, fun i2 d w e1 e2 => ?_⟩
          by_cases z2 : i2 = j
          · subst z2
            rw [List.getElem?_set_self hjl] at e1
            cases e1
            rw [evj] at e2
            cases e2
            obtain ⟨v2, ev2, cl2⟩ := eo2.slot x c' ex
            have fzx : σ2[x]? = some (some (.ref b)) := eo2.fz x (.ref b) (by show (if x = x then _ else _) = _; rw [if_pos rfl])
            rw [fzx] at ev2
            cases ev2
            rw [hgx] at cl2
            unfold Cl at cl2
            rw [if_neg (by omega), if_neg (by omega), if_neg (by omega), hk] at cl2
            have h1 := Own.re (pos' := fun a r => backO p ow2 x i i2 env.length a = some (i, r)) [] [i2] (k + 1) [] _ _ (fun a r z => bx z) cl2
            exact Own.same _ _ _ _ (fun _ _ e => e) (fun a z => .inl (z.imp backO_nn id)) (fun a r z _ => z) h1
          · rw [List.getElem?_set_ne (Ne.symm z2)] at e1
            refine Own.stay kp (fun a z => .inl (lentO_nn z)) (fun a z => ?_) [i2] (k + 1) [] d w (fun a r o e3 e4 => ?_) (hch i2 d w e1 e2)
            · rcases z with z | z
              · exact (w2 a z).imp .inl id
              · exact .inl (.inr z)
            · obtain ⟨g1, g2, g3, g4⟩ := frz e3 (fun s z => z2 (by cases z; rfl)) e4
              exact ⟨g1, backO_l g4 g2 (by omega)⟩
        · rw [List.getElem?_set_ne (Ne.symm zl)] at he
          rw [if_neg zl]
          obtain ⟨w, ew, cw⟩ := eo2.slot i d he
          have hi : i < env2.length := (List.getElem?_eq_some_iff.mp he).1
          exact ⟨w, ew, Cl.same' (fun _ _ e => e) (fun a z => z.elim) (fun a z => .inl (backO_nn z)) (fun a z => .inl (z.imp backO_nn id)) (fun a r z _ => backO_ot z zx (by omega) zl) cw⟩
    · by_cases zx : i = x
      · rw [zx, pz] at e; cases e
      · by_cases zl : i = l
        · subst zl
          have := h.fz i w e
          rw [ev] at this
          cases this
          exact eo2.fz i (.ref a) (by show (if i = x then _ else _) = _; rw [if_neg zx, if_pos rfl])
        · exact eo2.fz i w (by show (if i = x then _ else if i = l then _ else _) = _; rw [if_neg zx, if_neg zl]; exact e)
    · obtain ⟨g1, g2, g3⟩ := eo2.fc a o z (by show lentC p H1 ow l j env.length a = _; unfold lentC; rw [e])
      rw [List.length_set, List.length_set]
      exact ⟨g1, by rw [backO_fc (by rw [e]; intro z; cases z)]; exact g2, g3⟩
end
section
variable {p : Pz} {G : Gam} {rc : Nat → Nat} {R : Nat} {W : WX} {Dn : Ends} {H0 H H' : Hp} {o : Option Fls} {ow ow' : Hold} {σ : L2.St} {env : Env} {fl : Fls}
theorem brwE_inv {l : Nat} {k : D} {r : List D × Nat × List D} (h : brwE l k env = .ok r) : env[l]? = some (some (.lst r.1)) ∧ ∃ i, k = .int i ∧ ixN r.1.length i = some r.2.1 ∧ r.1[r.2.1]? = some (.lst r.2.2) := by
  unfold brwE at h
  split at h
  · rename_i ds e
    split at h
    · rename_i i
      split at h
      · rename_i j hj
        split at h
        · rename_i c hc
          cases h
          exact ⟨e, i, rfl, hj, hc⟩
        · cases h
      · cases h
    · cases h
  · cases h
theorem brwE_ne {l : Nat} {k : D} {c : Nat} {fs : List (Str × Int)} : brwE l k env ≠ .exc c fs := fun h => by
  unfold brwE at h
  split at h
  · split at h
    · split at h
      · split at h <;> cases h
      · cases h
    · cases h
  · cases h
theorem t_brw {K : PySem.W.Frag} {x l : Nat} {e : E} {s : S} (hr : ∀ f, 2 ≤ rc f ∧ rc f ≤ 9) (h : tS p G rc R W (.brw x l e s) Dn σ H) :
    tP p G rc W K l (.cons e .nil) σ H fun v H1 => gName x v σ H1 fun σ1 H2 => ∃ zc : (Nat → Option V) × (Addr → Option (HO × (Nat × List Nat))), tS (p.fzd zc.1 zc.2) G rc R W s Dn σ1 H2 := by
  obtain ⟨H0, env, fl, ow, o, eo, ⟨ht, hz⟩, h⟩ := h
  unfold S.tr at ht
  split at ht
  · rename_i hc
    obtain ⟨hxl, hx, hl, f4, f9, ax, al⟩ := hc
    obtain ⟨k, hk, h⟩ := Os.noexc h
    cases hb : brwE l k env with
    | stuck => rw [hb] at h; exact h.elim
    | exc c fs => exact absurd hb brwE_ne
    | ok r =>
      rw [hb] at h
      obtain ⟨ds, j, c⟩ := r
      obtain ⟨el, i, rfl, hj, ej⟩ := brwE_inv hb
      have pz : p.fz x = none := fz_none hz (show (x == x || s.asn x) = true by rw [beq_self_eq_true]; rfl)
      obtain ⟨a, vs, b, ev, ha, hlen, evj, lend⟩ := eo.lend hx hl hxl pz f4 f9 el ej
      have hd : atPath (fun d => .ok d) [.int i] (.lst ds) = .ok (.lst (ds.set j (.lst c))) := by
        show (match ixN ds.length i with | some j => (match ds[j]? with | some c => (atPath (fun d => .ok d) [] c).bind fun c' => Res.ok (D.lst (ds.set j c')) | none => .stuck) | none => .stuck) = _
        rw [hj]
        show (match ds[j]? with | some c => (atPath (fun d => .ok d) [] c).bind fun c' => Res.ok (D.lst (ds.set j c')) | none => .stuck) = _
        rw [ej]
        rfl
      have hw : Way σ H l [.int i] (.lst ds) b := ⟨.ref a, ev, fun z => (by cases z), fun i' xs z1 z2 => by
        cases z1; cases z2
        exact ⟨a, vs, j, rfl, ha, hlen, hj, evj⟩⟩
      refine way_path (pe := .cons e .nil) rfl hr eo.er (by show (e.sem G env).bind _ = _; rw [hk]; rfl) hd hw fun H1 s1 => ?_
      obtain ⟨eo1, back⟩ := lend H1 s1
      have hz' : ∀ i, (p.fzd (lentZ p x l (.ref b) (.ref a)) (lentC p H1 ow l j env.length)).fz i ≠ none → s.asn i = false := fun i z => by
        by_cases zx : i = x
        · rw [zx]; exact ax
        · by_cases zl : i = l
          · rw [zl]; exact al
          · have z' : (if i = x then some (V.ref b) else if i = l then some (V.ref a) else p.fz i) ≠ none := z
            rw [if_neg zx, if_neg zl] at z'
            exact (Bool.or_eq_false_iff.mp (show (x == i || s.asn i) = false from hz i z')).2
      cases hs : s.tr rc R ((fl.set l 1).set x (fl.getD l 0 - 1)) with
      | none => rw [hs] at ht; cases ht
      | some o' =>
        refine ⟨(_, _), H0, _, _, _, o', eo1, ⟨hs, hz'⟩, ?_⟩
        have h' : Os p R W Dn H0 o ow H (match s.sem G ((env.set l none).set x (some (.lst c))) with | .ok (.nx env2) => (match env2[x]? with | some (some c) => .ok (.nx ((env2.set l (some (.lst (ds.set j c)))).set x none)) | _ => .stuck) | r => r) := h
        cases hq : s.sem G ((env.set l none).set x (some (.lst c))) with
        | stuck => rw [hq] at h'; exact h'
        | exc c fs => rw [hq] at h'; exact h'
        | ok u =>
          rw [hq] at h'
          cases u with
          | rt d => exact h'
          | nx env2 =>
            cases o' with
            | none => exact absurd hq (tr_end s _ hs _ _)
            | some g =>
              rw [hs] at ht
              simp only at ht
              split at ht
              · rename_i hg
                cases ht
                refine ⟨g, rfl, fun σ2 ow2 H2 eo2 st => ?_⟩
                simp only at h'
                split at h'
                · rename_i c' ex
                  obtain ⟨f, ef, h'⟩ := h'
                  cases ef
                  obtain ⟨ow3, eo3, st3⟩ := back g env2 σ2 ow2 H2 c' eo2 st ex hg.1 hg.2.1 hg.2.2
                  exact h' σ2 ow3 H2 eo3 st3
                · exact h'.elim
              · cases ht
  · cases ht
end
end Tr

/-! Every statement is sound; so is every def. -/
namespace Tr
open PySem PySem.Spec PyProof.Rows L2
theorem swS_no {tg v : Expr} {env : PySem.Env} (h : isTup v = false) : swappedStores [tg] v env = pure none := by
  unfold swappedStores
  cases v <;> first | (cases tg <;> rfl) | cases h
theorem swS_no' {tg v : Expr} {env : PySem.Env} (h : ∀ es k q, tg ≠ .Tuple es k q) (h2 : ∀ es q, tg ≠ .List es q := by intro es q z; cases z) : swappedStores [tg] v env = pure none := by
  unfold swappedStores
  cases tg with
  | Tuple es k q => exact absurd rfl (h es k q)
  | List es q => exact absurd rfl (h2 es q)
  | _ => rfl
theorem swSole_no {v tg : Expr} {l : Nat} {env : PySem.Env} (h : isComp v = false) : swapsWithSole [tg] v l env = pure false := sw_no (t := some tg) h
theorem swSole_sub {v o i : Expr} {q : Pos} {l : Nat} {env : PySem.Env} : swapsWithSole [.Subscript o i q] v l env = pure false := sw_sub (v := v) (o := o) (i := i) (q := q) (l := l) (env := env)
theorem asg_sub {o i : Expr} {env : PySem.Env} {pos : Pos} (h : plainX i = true) : ∀ v, assign (.Subscript o i pos) env v = (do
      let ov ← holding [v] (eval o env)
      let iv ← holding [v, ov] (eval i env)
      standAt pos
      holding [v, ov, iv] (setItem ov iv v)
      release [v, ov, iv] []) := fun v => by
  cases i with
  | Slice => exact nomatch (show false = true from h)
  | _ => rfl
/-- the body's context -/
structure GoodS (p : Pm) (T : Nm) (G : Gam) (rc : Nat → Nat) (kk : Nat) (R : Nat) (W : WX) (X : Cx) : Prop where
  g : Good p T G rc kk W X
  own : PassesOwn (model X.prog X.w) X.A X.env X.xe
  kind : X.env.scope.kind = .function
  fn : ∀ x, X.fn x = true
  two : 2 ≤ R
  st : X.stack = X.env :: X.outer
  fr : X.env.frame = some X.env.locals
  ex : X.ex = []
section
variable {X : Cx} {p : Pz} {T : Nm} {N : List Str} {G : Gam} {rc : Nat → Nat} {kk : Nat} {R : Nat} {W : WX}
theorem names_ok (g : GoodS p T G rc kk R W X) (hN : X.N = N) : ∀ {is : List Nat} {ts : List Expr}, chkNs N is X.env.scope ts = true → PGs X ts (gNs is) ∧ (assignEach ts X.env).length = is.length ∧ (assignEach ts X.env).findIdx? (·.1) = none
  | [], [], _ => ⟨pgs_nil, rfl, rfl⟩
  | [], _ :: _, h => by unfold chkNs at h; cases h
  | _ :: _, [], h => by unfold chkNs at h; cases h
  | i :: is, t :: ts, h => by
    cases t with
    | Name x pos =>
      unfold chkNs at h
      obtain ⟨h1, h2, h3⟩ := and3 h
      obtain ⟨a, b, c⟩ := names_ok g hN h3
      refine ⟨pgs_cons (pg_name g.g.nd (by rw [hN]; exact of_decide_eq_true h1) (locB_of h2) (.inl (g.fn x))) a, ?_, ?_⟩
      · show (assignEach ts X.env).length + 1 = _
        rw [b]; rfl
      · show List.findIdx? (·.1) ((false, assign (.Name x pos) X.env) :: assignEach ts X.env) = none
        rw [List.findIdx?_cons]
        simp [c]
    | _ => unfold chkNs at h; cases h
theorem v_ok {p : Pm} (g : GoodS p T G rc kk R W X) (hN : X.N = N) {x : Nat} {o : Expr} (h : chkV N x X.env.scope o = true) : PE X o (tVar x) ∧ ∃ n pos, o = .Name n pos := by
  unfold chkV at h
  split at h
  · rename_i n hn
    obtain ⟨pos, rfl⟩ := asName_inv hn
    obtain ⟨h1, h2, h3⟩ := and3 h
    exact ⟨pe_var (by rw [hN]; exact of_decide_eq_true h1) (vis_of h2) (nm_of h3).1 (nm_of h3).2, n, pos, rfl⟩
  · cases h
theorem path_ok (g : GoodS p T G rc kk R W X) (hN : X.N = N) {x : Nat} {pe : Es} {o : Expr} (h : chkP T N x pe X.env.scope o = true) : PE X o (tP p G rc W X.K x pe) ∧ shortP pe = true ∧ (∀ m, attributeBase o m X.env (eval o X.env) = eval o X.env) ∧ plainX o = true := by
  match pe, h with
  | .nil, h =>
    obtain ⟨a, n, pos, rfl⟩ := v_ok g hN h
    exact ⟨a, rfl, fun _ => rfl, rfl⟩
  | .cons e .nil, h =>
    have h' : (match asSub o with | some (o', i) => chkV N x X.env.scope o' && chkE T N e X.env.scope i | none => false) = true := h
    clear h
    split at h'
    · rename_i o' i hs
      obtain ⟨⟨pos, rfl⟩, ns⟩ := asSub_inv hs
      obtain ⟨h1, h2⟩ := and2 h'
      obtain ⟨a, _⟩ := v_ok g hN h1
      have pl := chkE_plain e h2
      exact ⟨pe_ix ix_seq a (E_ok e i W X g.g hN h2).1 (notSl_plain pl), rfl, fun _ => rfl, rfl⟩
    · cases h'
theorem path_nc {x : Nat} {e : E} {sc : Scope} {o : Expr} (h : chkP T N x (.cons e .nil) sc o = true) : isComp o = false := by
  have h' : (match asSub o with | some (o', i) => chkV N x sc o' && chkE T N e sc i | none => false) = true := h
  split at h'
  · rename_i o' i hs
    obtain ⟨⟨pos, rfl⟩, ns⟩ := asSub_inv hs
    rfl
  · cases h'
theorem not_b {b : Bool} (h : (!b) = true) : b = false := by cases b <;> simp at h ⊢
theorem par_ok {ts vs : List Expr} {k k2 : Nat} {p1 p2 : Pos} (hk : X.env.scope.kind = .function) (h : parB X.env.scope ts vs = true) : ∃ x y px py a b, ts = [.Name x px, .Name y py] ∧ vs = [a, b] ∧ X.env.scope.names.lookup x = some .local ∧ X.env.scope.names.lookup y = some .local ∧ x ≠ y ∧
    swappedStores [.Tuple ts k p1] (.Tuple vs k2 p2) X.env = pure (some [x, y]) := by
  unfold parB at h
  split at h
  · rename_i x px y py a b
    simp only [Bool.and_eq_true] at h
    obtain ⟨⟨⟨⟨⟨⟨⟨h1, h2⟩, h3⟩, h4⟩, h5⟩, h6⟩, h7⟩, h8⟩ := h
    have l1 := loc1B_of h1
    have l2 := loc1B_of h2
    have ne : x ≠ y := fun e => by subst e; simp at h4
    refine ⟨x, y, px, py, a, b, rfl, rfl, l1, l2, ne, ?_⟩
    have hb : X.env.blockKind = .function := by unfold PySem.Env.blockKind; rw [hk]; rfl
    have k1 : X.env.kindOf x = some .local := l1
    have k2 : X.env.kindOf y = some .local := l2
    have h7 : [a, b].all (foldedForSure 8) = false := not_b h7
    have h8 : [a, b].all (constantsAlone 8) = false := not_b h8
    have h3 : (py.line == px.line) = true := h3
    have exy : (x == y) = false := by simpa using ne
    have eyx : (y == x) = false := by simpa using (Ne.symm ne)
    have ll : (some NameKind.local == some NameKind.local) = true := rfl
    have pp : (px.line == px.line) = true := by simp
    have er : ([x, y] : List Str).eraseDups = [x, y] := by
      rw [List.eraseDups_cons]
      simp [eyx, List.eraseDups_cons]
    unfold swappedStores
    simp only [List.length_cons, List.length_nil, hb, List.any_cons, List.any_nil, List.filterMap_cons, List.filterMap_nil, List.head?_cons, Option.map_some, Option.getD_some, Expr.pos, k1, k2, h3, h7, h8, ll, pp, Bool.and_true, if_true, er]
    cases a with
    | Starred => exact nomatch (show false = true from h5)
    | _ =>
      cases b with
      | Starred => exact nomatch (show false = true from h6)
      | _ => rfl
  · cases h
theorem isComp_b {v : Expr} (h : (!isComp v) = true) : isComp v = false := not_b h
theorem mk_ok (g : GoodS p T G rc kk R W X) (hN : X.N = N) {i : Nat} {x : Str} {e : E} {v : Expr} {px pos : Pos} (hi : X.N[i]? = some x) (hx : L2.Loc X.env.scope x) (h : chkM T N e X.env.scope v = true) : PS X (.Assign [.Name x px] v pos) (tS p G rc R W (.asg i e)) := by
  cases e with
  | mkx c fs es =>
    rw [chkM] at h
    split at h
    · rename_i n y ys hc
      obtain ⟨q0, pos2, rfl⟩ := asCall_inv hc
      simp only [Bool.and_eq_true, decide_eq_true_eq] at h
      obtain ⟨⟨⟨⟨⟨⟨⟨h1, h2⟩, h3⟩, h3'⟩, h3''⟩, h4⟩, h5⟩, h6⟩ := h
      have q := s_mkx g.g g.ex (pos := pos2) (p1 := q0) h1 (by simpa using h2) h3 (by intro e; subst e; simp at h3') h3'' h4 h5 (chkEs_plain es h6) (Es_ok es (y :: ys) W X g.g hN h6)
      exact (ps_set g.g.nd hi hx q (sw_no rfl) (.inl (g.fn x))).imp fun D σ H q => t_asg g.g.rcl q
    · cases h
  | _ => cases h
theorem pss_ex {α : Type} {sts : List Stmt} {t : α → TS} (h : ∀ z, PSs X sts (t z)) : PSs X sts fun D σ H => ∃ z, t z D σ H := ⟨fun pins s σ H D I q => let ⟨z, q⟩ := q; (h z).run pins s σ H D I q⟩
theorem brw_pss {st : Stmt} {r : List Stmt} {x l : Nat} {e : E} {s : S} (hr : ∀ f, 2 ≤ rc f ∧ rc f ≤ 9) (ps : PS X st fun D σ H => tP p G rc W X.K l (.cons e .nil) σ H fun v H1 => gName x v σ H1 D.nx)
    (pe : PSs X r fun D σ H => ∃ zc : (Nat → Option V) × (Addr → Option (HO × (Nat × List Nat))), tS (p.fzd zc.1 zc.2) G rc R W s D σ H) : PSs X (st :: r) (tS p G rc R W (.brw x l e s)) :=
  (pss_cons ps pe).imp fun D σ H q => t_brw (K := X.K) hr q
theorem GoodS.fzd {z : Nat → Option V} {c : Addr → Option (HO × (Nat × List Nat))} (g : GoodS p T G rc kk R W X) : GoodS (p.fzd z c) T G rc kk R W X := g
def chkL (T : Nm) (N : List Str) (x l : Nat) (e : E) (sc : Scope) (st : Stmt) : Bool := match asAsg st with
  | some (.Name n _, o) => decide (N[x]? = some n) && locB sc n && chkP T N l (.cons e .nil) sc o
  | _ => false
theorem brw_ok (g : GoodS p T G rc kk R W X) (hN : X.N = N) {st : Stmt} {r : List Stmt} {x l : Nat} {e : E} {s : S} (h : chkL T N x l e X.env.scope st = true) (ih : ∀ p' : Pz, GoodS p' T G rc kk R W X → PSs X r (tS p' G rc R W s)) : PSs X (st :: r) (tS p G rc R W (.brw x l e s)) := by
  unfold chkL at h
  split at h
  · rename_i n px o hs
    obtain ⟨pos, rfl⟩ := asAsg_inv hs
    obtain ⟨e1, e2, e3⟩ := and3 h
    obtain ⟨b, sh, ab, pl⟩ := path_ok g hN e3
    exact brw_pss g.g.rcl (ps_set g.g.nd (by rw [hN]; exact of_decide_eq_true e1) (locB_of e2) b (sw_no (path_nc e3)) (.inl (g.fn n))) (pss_ex fun zc => ih _ (GoodS.fzd g))
  · cases h
mutual
theorem S1_ok (s : S) : ∀ {p : Pz} (st : Stmt) (g : GoodS p T G rc kk R W X) (hN : X.N = N) (h : chk1 T N s X.env.scope st = true), PS X st (tS p G rc R W s) := by
  intro p st g hN h
  cases s with
  | skip => unfold chk1 at h; cases h
  | seq a b => unfold chk1 at h; cases h
  | dem i f s => unfold chk1 at h; cases h
  | rse c =>
    unfold chk1 at h
    split at h
    · rename_i n as hs
      obtain ⟨p1, p2, pos, rfl⟩ := asRse_inv hs
      simp only [Bool.and_eq_true, decide_eq_true_eq] at h
      obtain ⟨⟨⟨⟨⟨h1, h2⟩, h3⟩, h4⟩, h5⟩, h6⟩ := h
      obtain ⟨m, j, q, rfl⟩ := isTxt_inv h6
      exact (ps_rse g.g h1 (by simpa using h2) h3 h4 h5).imp fun D σ H q => t_rse g.g.xok (by simpa using h2) q
    · cases h
  | rsf c fs es =>
    unfold chk1 at h
    split at h
    · rename_i n y ys hs
      obtain ⟨p1, p2, pos, rfl⟩ := asRse_inv hs
      simp only [Bool.and_eq_true, decide_eq_true_eq] at h
      obtain ⟨⟨⟨⟨⟨⟨⟨h1, h2⟩, h3⟩, h3'⟩, h3''⟩, h4⟩, h5⟩, h6⟩ := h
      exact ps_rsf g.g h1 (by simpa using h2) h3 (by intro e; subst e; simp at h3') h3'' h4 h5 (chkEs_plain es h6) (Es_ok es (y :: ys) W X g.g hN h6)
    · cases h
  | try_ e x hh =>
    unfold chk1 at h
    split at h
    · rename_i body c n suite hs
      obtain ⟨p1, p2, pos, rfl⟩ := asTry_inv hs
      split at h
      · rename_i s
        split at h
        · rename_i v hv
          obtain ⟨vpos, rfl⟩ := asExp_inv hv
          simp only [Bool.and_eq_true, decide_eq_true_eq] at h
          obtain ⟨⟨⟨⟨⟨⟨⟨⟨h1, h2⟩, h3⟩, h4⟩, h5⟩, h6⟩, h7⟩, h8⟩, h9⟩ := h
          match suite, h9, h8 with
          | s0 :: suite, _, h8 =>
            have nc : isComp v = false := not_b h7
            refine (ps_try_hold (i := x) (tb := fun W' => tDrop (tE p G rc W' e)) (ts := tHs p hh) (c := .ref (p.cad 0)) g.st g.fr g.ex g.g.nd (by rw [hN]; exact h4) (loc1B_of h5) ⟨gl_of h2, (nm_of h3).1, .inl (g.g.xmg 0 c h1)⟩ (fun W' pn xe tk _ => ?_) fun a pn => ?_).imp fun D σ H q => t_try g.g.kq g.g.xok h1 g.g.rcl q
            · exact pss_one (ps_expr (E_ok e v W' (X.tr pn xe) (g.g.tr tk) hN h6).1 (sw_no nc))
            · exact suite_ok (Y := X.suite a pn) (g.g.g1.suite a pn) hN (fun n h => .inl (g.fn n)) hh (s0 :: suite) h8
        · cases h
      · cases h
    · cases h
  | nev =>
    refine ps_never.imp fun D σ H q => ?_
    obtain ⟨H0, env, fl, ow, o, eo, ht, q⟩ := q
    exact q
  | mov i j =>
    unfold chk1 at h
    split at h
    · rename_i x px v hs
      obtain ⟨pos, rfl⟩ := asAsg_inv hs
      obtain ⟨h1, h2, h3⟩ := and3 h
      obtain ⟨pv, n, q, rfl⟩ := v_ok g hN h3
      exact (ps_set g.g.nd (by rw [hN]; exact of_decide_eq_true h1) (locB_of h2) pv (sw_no rfl) (.inl (g.fn x))).imp fun D σ H q => t_mov q
    · cases h
  | asg i e =>
    unfold chk1 at h
    split at h
    · rename_i x px v hs
      obtain ⟨pos, rfl⟩ := asAsg_inv hs
      obtain ⟨h, h4⟩ := and2 h
      obtain ⟨h1, h2, h3⟩ := and3 h
      have hi : X.N[i]? = some x := by rw [hN]; exact of_decide_eq_true h1
      have h3o : chkE T N e X.env.scope v = true ∨ chkM T N e X.env.scope v = true := by simpa using h3
      have h3b := h3o
      clear h3
      by_cases hm : chkM T N e X.env.scope v = true
      · exact mk_ok g hN hi (locB_of h2) hm
      have h3 : chkE T N e X.env.scope v = true := h3b.resolve_right hm
      by_cases hc : isComp v = true
      · rw [hc] at h4
        have h4 : (isCE e && swB X.env.scope x px v) = true := h4
        obtain ⟨ce, sw⟩ := and2 h4
        cases e with
        | comp tg it e =>
          unfold chkE at h3
          split at h3
          · rename_i elt tgx iter scope hcc
            obtain ⟨pos, rfl⟩ := asComp_inv hcc
            have sw' : (loc1B X.env.scope x && (px.line == pos.line) && !(scope.names.any fun (n, k) => n == x && (k == .local || k == .cell))) = true := sw
            obtain ⟨w1, w2, w3⟩ := and3 sw'
            split at h3
            · rename_i ns hns
              obtain ⟨h3, c4⟩ := and2 h3
              obtain ⟨c1, c2, c3⟩ := and3 h3
              obtain ⟨c0, c1⟩ := and2 c1
              obtain ⟨i1, i2⟩ := It_ok it iter tgx tg ns hns c0 W X g.g hN c1
              have bo := blkOk_by (by rw [← hN] at c2; exact c2)
              have ez : (ns.zip tg).map (·.2) = tg := tg_zip hns
              refine (ps_setLc (own := ns.zip tg) (g := gTg X.K tg) g.g.calm g.g.nd hi (loc1B_of w1) (sw_true g.kind (loc1B_of w1) w2 (not_b w3)) i1 bo (fun s H C cl fp => pg_tg (Y := X.blk s H scope (compEnvC scope cl C X.env) fp) g.g.calm g.g.nd hns bo.ix (comp_loc c3)) (fun _ _ _ _ _ => pts_nil)
                (fun s H C cl fp => (E_ok e elt noW (X.blk s H scope (compEnvC scope cl C X.env) fp) g.g.blk hN c4).1) (fun x => folded_plain i2)).imp fun D σ H q => ?_
              rw [ez]
              exact lc_imp g.g (t_asg g.g.rcl q)
            · cases h3
          · cases h3
        | compIf tg it c e =>
          unfold chkE at h3
          split at h3
          · rename_i elt tgx iter cx scope hcc
            obtain ⟨pos, rfl⟩ := asComp_inv hcc
            have sw' : (loc1B X.env.scope x && (px.line == pos.line) && !(scope.names.any fun (n, k) => n == x && (k == .local || k == .cell))) = true := sw
            obtain ⟨w1, w2, w3⟩ := and3 sw'
            split at h3
            · rename_i ns hns
              obtain ⟨h3, c5⟩ := and2 h3
              obtain ⟨h3, c4⟩ := and2 h3
              obtain ⟨c1, c2, c3⟩ := and3 h3
              obtain ⟨c0, c1⟩ := and2 c1
              obtain ⟨i1, i2⟩ := It_ok it iter tgx tg ns hns c0 W X g.g hN c1
              have bo := blkOk_by (by rw [← hN] at c2; exact c2)
              have ez : (ns.zip tg).map (·.2) = tg := tg_zip hns
              refine (ps_setLc (own := ns.zip tg) (g := gTg X.K tg) g.g.calm g.g.nd hi (loc1B_of w1) (sw_true g.kind (loc1B_of w1) w2 (not_b w3)) i1 bo (fun s H C cl fp => pg_tg (Y := X.blk s H scope (compEnvC scope cl C X.env) fp) g.g.calm g.g.nd hns bo.ix (comp_loc c3))
                (fun s H C cl fp => pts_one (E_ok c cx noW (X.blk s H scope (compEnvC scope cl C X.env) fp) g.g.blk hN c4).2)
                (fun s H C cl fp => (E_ok e elt noW (X.blk s H scope (compEnvC scope cl C X.env) fp) g.g.blk hN c5).1) (fun x => folded_plain i2)).imp fun D σ H q => ?_
              rw [ez]
              exact lcIf_imp g.g (t_asg g.g.rcl q)
            · cases h3
          · cases h3
        | _ => cases ce
      · have hc : isComp v = false := by simpa using hc
        exact (ps_set g.g.nd hi (locB_of h2) (E_ok e v W X g.g hN h3).1 (sw_no hc) (.inl (g.fn x))).imp fun D σ H q => t_asg g.g.rcl q
    · cases h
  | unp is e =>
    unfold chk1 at h
    split at h
    · rename_i ts k pt v hs
      obtain ⟨pos, rfl⟩ := asAsg_inv hs
      obtain ⟨h, h4⟩ := and2 h
      obtain ⟨h1, h2, h3⟩ := and3 h
      obtain ⟨a, b, c⟩ := names_ok g hN h1
      exact (ps_asg (E_ok e v W X g.g hN h2).1 (pg_tup g.g.calm a b c) (swSole_no (isComp_b h3)) (swS_no (not_b h4)) rfl).imp fun D σ H q => t_unp g.g q
    · cases h
  | par is es =>
    unfold chk1 at h
    split at h
    · rename_i ts k pt vs k2 pt2 hs
      obtain ⟨pos, rfl⟩ := asAsg_inv hs
      obtain ⟨h1, h2, h3⟩ := and3 h
      obtain ⟨x, y, px, py, a, b, rfl, rfl, l1, l2, ne, sw⟩ := par_ok (k := k) (k2 := k2) (p1 := pt) (p2 := pt2) g.kind h3
      match is, h1 with
      | [i, j], h1 =>
        have h1' : (decide (N[i]? = some x) && locB X.env.scope x && (decide (N[j]? = some y) && locB X.env.scope y && true)) = true := h1
        simp only [Bool.and_eq_true, decide_eq_true_eq, Bool.and_true] at h1'
        obtain ⟨⟨e1, _⟩, e2, _⟩ := h1'
        have hij : i ≠ j := fun e => by subst e; rw [e1] at e2; exact ne (Option.some.inj e2)
        exact (ps_par g.g.calm g.g.nd (by rw [hN]; exact e1) (by rw [hN]; exact e2) hij l1 l2 (Es_ok es _ W X g.g hN h2) sw rfl).imp fun D σ H q => t_par g.g.rcl q
      | [], h1 => cases h1
      | [i], h1 =>
        have h1' : (decide (N[i]? = some x) && locB X.env.scope x && false) = true := h1
        rw [Bool.and_false] at h1'; cases h1'
      | i :: j :: l :: r, h1 =>
        have h1' : (decide (N[i]? = some x) && locB X.env.scope x && (decide (N[j]? = some y) && locB X.env.scope y && false)) = true := h1
        rw [Bool.and_false, Bool.and_false] at h1'; cases h1'
    · cases h
  | app x pe e =>
    unfold chk1 at h
    split at h
    · rename_i y hs
      obtain ⟨pos, rfl⟩ := asExp_inv hs
      split at h
      · rename_i o m a hm
        obtain ⟨apos, cpos, rfl, hl⟩ := asMeth_inv hm
        obtain ⟨h1, h2, h3⟩ := and3 h
        have hm' := of_decide_eq_true h1
        subst hm'
        obtain ⟨b, sh, ab, pl⟩ := path_ok g hN h2
        have pa := chkE_plain e h3
        exact (ps_expr (pe_bm PySem.F.plainAttrs_list PySem.F.slot_list_append PySem.F.type_list_append mt_append b (pa_cons (E_ok e a W X g.g hN h3).1 pa_nil (star_cons pa)) (ab _) (by rw [star_cons pa]; rfl) hl (star_cons pa) rfl) rfl).imp fun D σ H q => t_app sh g.g.rcl q
      · cases h
    · cases h
  | set x pe i e =>
    unfold chk1 at h
    split at h
    · rename_i o k pk v hs
      obtain ⟨pos, rfl⟩ := asAsg_inv hs
      obtain ⟨h1, h2, h3⟩ := and3 h
      obtain ⟨b, sh, ab, pl⟩ := path_ok g hN h1
      have pk := chkE_plain i h2
      exact (ps_asg (E_ok e v W X g.g hN h3).1 (pg_sub b (E_ok i k W X g.g hN h2).1 set_list (asg_sub pk)) swSole_sub (swS_no' (by intro es k q z; cases z)) rfl).imp fun D σ H q => t_set sh g.g.rcl q
    · cases h
  | put x pe i e =>
    unfold chk1 at h
    split at h
    · rename_i o k pk v hs
      obtain ⟨pos, rfl⟩ := asAsg_inv hs
      obtain ⟨h1, h2, h3⟩ := and3 h
      obtain ⟨b, sh, ab, pl⟩ := path_ok g hN h1
      exact (ps_dput (hu_of g.g.room) b (E_ok i k W X g.g hN h2).1 (E_ok e v W X g.g hN h3).1 sw_sub).imp fun D σ H q => t_put sh g.g.rcl q
    · cases h
  | brw x l e s => unfold chk1 at h; cases h
  | ins x pe i e =>
    unfold chk1 at h
    split at h
    · rename_i y hs
      obtain ⟨pos, rfl⟩ := asExp_inv hs
      split at h
      · rename_i o m k a hm
        obtain ⟨apos, cpos, rfl, hl⟩ := asMeth_inv hm
        obtain ⟨h, h4⟩ := and2 h
        obtain ⟨h1, h2, h3⟩ := and3 h
        have hm' := of_decide_eq_true h1
        subst hm'
        obtain ⟨b, sh, ab, pl⟩ := path_ok g hN h2
        have pk := chkE_plain i h3
        have pa := chkE_plain e h4
        exact (ps_expr (pe_bm PySem.F.plainAttrs_list PySem.F.slot_list_insert PySem.F.type_list_insert (r := rIns) mt_insert b (pa_cons (E_ok i k W X g.g hN h3).1 (pa_cons (E_ok e a W X g.g hN h4).1 pa_nil (star_cons pa)) (star_cons pk)) (ab _) (by rw [star_cons pk, star_cons pa]; rfl) hl (star_cons pk) (star_any fun z hz => by rw [List.mem_singleton.mp hz]; exact pa)) rfl).imp fun D σ H q => t_ins sh g.g.rcl q
      · cases h
    · cases h
  | pop x pe i =>
    unfold chk1 at h
    split at h
    · rename_i y hs
      obtain ⟨pos, rfl⟩ := asExp_inv hs
      split at h
      · rename_i o m k hm
        obtain ⟨apos, cpos, rfl, hl⟩ := asMeth_inv hm
        obtain ⟨h1, h2, h3⟩ := and3 h
        have hm' := of_decide_eq_true h1
        subst hm'
        obtain ⟨b, sh, ab, pl⟩ := path_ok g hN h2
        have pk := chkE_plain i h3
        exact (ps_expr (pe_bm PySem.F.plainAttrs_list PySem.F.slot_list_pop PySem.F.type_list_pop mt_popAt b (pa_cons (E_ok i k W X g.g hN h3).1 pa_nil (star_cons pk)) (ab _) (by rw [star_cons pk]; rfl) hl (star_cons pk) rfl) rfl).imp fun D σ H q => t_pop sh g.g.rcl q
      · cases h
    · cases h
  | clr x pe =>
    unfold chk1 at h
    split at h
    · rename_i y hs
      obtain ⟨pos, rfl⟩ := asExp_inv hs
      split at h
      · rename_i o m hm
        obtain ⟨apos, cpos, rfl, hl⟩ := asMeth_inv hm
        obtain ⟨h1, h2⟩ := and2 h
        have hm' := of_decide_eq_true h1
        subst hm'
        obtain ⟨b, sh, ab, pl⟩ := path_ok g hN h2
        exact (ps_expr (pe_bm0 PySem.F.plainAttrs_list PySem.F.slot_list_clear PySem.F.type_list_clear mt_clear b (ab _) hl) rfl).imp fun D σ H q => t_clr sh g.g.rcl q
      · cases h
    · cases h
  | iff c a b =>
    unfold chk1 at h
    split at h
    · rename_i t u w hs
      obtain ⟨pos, rfl⟩ := asIfS_inv hs
      obtain ⟨h1, h2, h3⟩ := and3 h
      exact (ps_if (E_ok c t W X g.g hN h1).2 (SB_ok a u g hN h2) (SB_ok b w g hN h3)).imp fun D σ H q => t_iff q
    · cases h
  | for_ tg it b =>
    unfold chk1 at h
    split at h
    · rename_i tx ix u hs
      obtain ⟨pos, rfl⟩ := asFor_inv hs
      split at h
      · rename_i ns hns
        obtain ⟨h, h5⟩ := and2 h
        obtain ⟨h, h4⟩ := and2 h
        obtain ⟨h1, h2, h3⟩ := and3 h
        obtain ⟨i1, i2⟩ := It_ok it ix tx tg ns hns h1 W X g.g hN h2
        exact (ps_for g.own g.g.calm i1 (pg_tg g.g.calm g.g.nd hns (fun z hz => by rw [hN]; exact of_decide_eq_true (List.all_eq_true.mp h3 z hz)) fun n hn => ⟨locB_of (List.all_eq_true.mp h4 n hn), .inl (g.fn n)⟩) (SB_ok b u g hN h5) (fun x => folded_plain i2)).imp fun D σ H q => t_for q
      · cases h
    · cases h
  | whl c b =>
    unfold chk1 at h
    split at h
    · rename_i t u hs
      obtain ⟨pos, rfl⟩ := asWhl_inv hs
      obtain ⟨h1, h2⟩ := and2 h
      exact (ps_while g.own (E_ok c t W X g.g hN h1).2 (SB_ok b u g hN h2)).imp fun D σ H q => t_whl q
    · cases h
  | ret e =>
    unfold chk1 at h
    split at h
    · rename_i v hs
      obtain ⟨pos, rfl⟩ := asRet_inv hs
      by_cases hv : ∃ i, e = .v i
      · obtain ⟨i, rfl⟩ := hv
        exact (ps_ret (v_ok g hN (show chkV N i X.env.scope v = true from h)).1).imp fun D σ H q => t_retV g.two q
      · exact (ps_ret (E_ok e v W X g.g hN h).1).imp fun D σ H q => t_ret g.two g.g.rcl (fun i z => hv ⟨i, z⟩) q
    · cases h
  | drop e =>
    unfold chk1 at h
    split at h
    · rename_i v hs
      obtain ⟨pos, rfl⟩ := asExp_inv hs
      obtain ⟨h1, h2⟩ := and2 h
      exact (ps_expr (E_ok e v W X g.g hN h1).1 (sw_no (isComp_b h2))).imp fun D σ H q => t_drop q
    · cases h
termination_by structural s
theorem SB_ok (s : S) : ∀ {p : Pz} (sts : List Stmt) (g : GoodS p T G rc kk R W X) (hN : X.N = N) (h : chkB T N s X.env.scope sts = true), PSs X sts (tS p G rc R W s) := by
  intro p sts g hN h
  cases s with
  | skip =>
    cases sts with
    | nil => exact pss_nil.imp fun D σ H q => t_skip q
    | cons st r =>
      cases r with
      | nil =>
        cases st <;> first | exact (pss_one ps_pass).imp (fun D σ H q => t_skip q) | cases h
      | cons st2 r => exfalso; cases st <;> cases h
  | nev =>
    refine pss_never.imp fun D σ H q => ?_
    obtain ⟨H0, env, fl, ow, o, eo, ht, q⟩ := q
    exact q
  | seq a b =>
    cases sts with
    | nil => cases h
    | cons st r =>
      have h' : (chk1 T N a X.env.scope st && chkB T N b X.env.scope r) = true := h
      obtain ⟨h1, h2⟩ := and2 h'
      exact (pss_cons (S1_ok a st g hN h1) (SB_ok b r g hN h2)).imp fun D σ H q => t_seq q
  | brw x l e s =>
    cases sts with
    | nil => cases h
    | cons st r =>
      have h' : (chkL T N x l e X.env.scope st && chkB T N s X.env.scope r) = true := h
      obtain ⟨h1, h2⟩ := and2 h'
      exact brw_ok g hN h1 fun p' g' => SB_ok s r g' hN h2
  | dem i f s =>
    have h' : chkB T N s X.env.scope sts = true := h
    exact (SB_ok s sts g hN h').imp fun D σ H q => t_dem q
  | _ => exfalso; revert h; cases sts <;> (intro h; cases h)
termination_by structural s
end
end
end Tr

/-! Defs keep their promises. -/
namespace Tr
open PySem PySem.Spec PyProof.Rows L2

/-- a def of the law, as a term -/
structure Dfn where
  name : Str
  ps : List Str
  N : List Str
  pf : List Nat
  R : Nat
  body : S
  /-- 0 a def, 1 a method of the own class, 2 its __init__ (pf: the numbers of the defs that it calls) -/
  kd : Nat
  qn : Str
/-- the exception classes (0: what is caught), their fields, those that are raised; is there the own class -/
structure Xn where
  x : List Str
  xf : List (List Str)
  rs : List Nat
  tb : Bool
  k : List (Str × Int)
def nmK (L : List Dfn) (j k : Nat) : Nat → Option Str := fun f => if f < j then L[f]?.bind fun d => if d.kd = k then some d.name else none else none
/-- the names that a def may call: those ahead of it -/
def nmT (L : List Dfn) (Y : Xn) (j : Nat) : Nm := ⟨nmK L j 0, nmK L j 1, nmK L j 2, Y.x, Y.xf, Y.rs, Y.tb, Y.k⟩
theorem nmK_inv {L : List Dfn} {j k f : Nat} {x : Str} (h : nmK L j k f = some x) : f < j ∧ ∃ d, L[f]? = some d ∧ d.kd = k ∧ d.name = x := by
  unfold nmK at h
  split at h
  · rename_i hl
    cases e : L[f]? with
    | none => rw [e] at h; cases h
    | some d =>
      rw [e] at h
      have h' : (if d.kd = k then some d.name else none) = some x := h
      split at h'
      · rename_i hk; exact ⟨hl, d, rfl, hk, Option.some.inj h'⟩
      · cases h'
  · cases h
/-- what the own class's __init__ fills its dict with -/
def fillD (kvs : List (List Int × D)) : List D → List (List Int × D) → Res (List (List Int × D))
  | [], es => .ok es
  | k :: r, es => match keyD k with
    | some ks => (match findD kvs ks with
      | some (.lst xs) => if D.pureL xs = true ∧ es.length < line then fillD kvs r (putD es ks (.tup xs)) else .stuck
      | _ => .stuck)
    | none => .stuck
/-- the own class's __init__ -/
def mkT (G : Gam) (a b c : Nat) : Fn
  | [.lst ss, .dic kvs] => (G a [.lst ss]).bind fun _ => (G b [.lst ss]).bind fun od => match od with
    | .lst order => (G c [.lst order, .dic kvs, .int ss.length]).bind fun _ => if D.pureL ss = true then (fillD kvs order []).bind fun es => .ok (.obj [("many", .lst ss), ("earnings", .dic es)]) else .stuck
    | _ => .stuck
  | _ => .stuck
def mkF (G : Gam) : List Nat → Fn
  | [a, b, c] => mkT G a b c
  | _ => fun _ => .stuck
def rcL (L : List Dfn) : Nat → Nat := fun f => match L[f]? with | some d => d.R | none => 9
noncomputable def gamL (L : List Dfn) : Nat → Gam
  | 0 => fun _ _ => .stuck
  | j + 1 => fun f => if f = j then (match L[j]? with | some d => if d.kd = 2 then mkF (gamL L j) d.pf else semF (gamL L j) d.pf d.N.length d.body | none => fun _ => .stuck) else gamL L j f
/-- a def's meaning -/
noncomputable def fnL (L : List Dfn) (f : Nat) : Fn := gamL L (f + 1) f
theorem gamL_lt (L : List Dfn) {j f : Nat} (h : f < j) : gamL L j f = fnL L f := by
  induction j with
  | zero => omega
  | succ j ih =>
    by_cases e : f = j
    · subst e; rfl
    · show (if f = j then _ else gamL L j f) = _
      rw [if_neg e]
      exact ih (by omega)
theorem fnL_eq (L : List Dfn) {f : Nat} {d : Dfn} (h : L[f]? = some d) (hk : d.kd ≠ 2) : fnL L f = semF (gamL L f) d.pf d.N.length d.body := by
  unfold fnL
  show (if f = f then _ else _) = _
  rw [if_pos rfl, h]
  show (if d.kd = 2 then _ else _) = _
  rw [if_neg hk]
theorem fnL_mk (L : List Dfn) {f : Nat} {d : Dfn} (h : L[f]? = some d) (hk : d.kd = 2) : fnL L f = mkF (gamL L f) d.pf := by
  unfold fnL
  show (if f = f then _ else _) = _
  rw [if_pos rfl, h]
  show (if d.kd = 2 then _ else _) = _
  rw [if_pos hk]
def chkD (L : List Dfn) (Y : Xn) (j : Nat) (d : Dfn) (st : Stmt) : Bool :=
  decide (d.kd ≤ 1) &&   d.pf.all (fun f => f == 1 || f == 9) && decide (d.pf.length = d.ps.length) && decide (d.ps.length ≤ d.N.length) && chkB (nmT L Y j) d.N d.body (defScope st) (defBody st) && (d.body.tr (rcL L) d.R (d.pf ++ List.replicate (d.N.length - d.pf.length) 9)).isSome
/-- where a def stands -/
structure DefAt (p : Pm) (mg : Str → Option Value) (d : Dfn) (st : Stmt) (adr : Addr) (fd : FuncData) : Prop where
  F : Fun p.K (if d.kd = 2 then "__init__" else d.name) d.qn st adr fd
  hm : d.kd = 0 → mg d.name = some (.ref adr)
  me : d.kd = 1 → Meth p.K p.tc d.name adr
  bi : Binds p.K fd d.ps []
  sc : FnScope d.N d.ps (defScope st)
/-- the classes -/
structure ClsAt (p : Pm) (mg : Str → Option Value) (Y : Xn) : Prop where
  tok : Y.tb = true → Cls p.K p.tc ∧ NoAttr p.K p.tc "many" ∧ NoAttr p.K p.tc "earnings"
  xok : ∀ j L, Xok p (nmT L Y j)
  xmg : ∀ c x, Y.x[c]? = some x → mg x = some (.ref (p.cad c))
  con : ∀ x i, (x, i) ∈ Y.k → ∃ t, mg x = some (.int i t)
theorem purP_len : ∀ {pf : List Nat} {ds : List D}, purP pf ds = true → ds.length = pf.length
  | [], [], _ => rfl
  | [], _ :: _, h => by cases h
  | _ :: _, [], h => by cases h
  | f :: pf, d :: ds, h => by
    have h' : ((f != 9 || d.pure) && purP pf ds) = true := h
    rw [List.length_cons, List.length_cons, purP_len (and2 h').2]
theorem purP_get : ∀ {pf : List Nat} {ds : List D} {i : Nat} {d : D}, purP pf ds = true → ds[i]? = some d → pf.getD i 0 = 9 → d.pure = true
  | [], [], _, _, _, e, _ => by simp at e
  | [], _ :: _, _, _, h, _, _ => by cases h
  | _ :: _, [], _, _, h, _, _ => by cases h
  | f :: pf, x :: ds, i, d, h, e, z => by
    have h' : ((f != 9 || x.pure) && purP pf ds) = true := h
    obtain ⟨h1, h2⟩ := and2 h'
    cases i with
    | zero =>
      have e' : x = d := by simpa using e
      have z' : f = 9 := z
      subst e' z'
      simpa using h1
    | succ i => exact purP_get (i := i) h2 (by simpa using e) z
section
variable {p : Pm} {P : Program} {w : World} {mg : Str → Option Value} {base : Heap} {L : List Dfn}
theorem repL_at {H : Hp} {av : Addr → Prop} {ds : List D} {vs : List V} {i : Nat} {d : D} (h : RepL p H av ds vs) (e : ds[i]? = some d) : ∃ v, vs[i]? = some v ∧ Rep p H av d v := h.get e
/-- the frame's beginning -/
theorem Eo.begin_ {H : Hp} {pf : List Nat} {N : List Str} {ds : List D} {vs : List V} (hr : RepL p H nobody ds vs) (hp : purP pf ds = true) (h19 : pf.all (fun f => f == 1 || f == 9) = true) (hN : ds.length ≤ N.length) :
    Eo p.z0 H (pf ++ List.replicate (N.length - pf.length) 9) (ds.map some ++ List.replicate (N.length - ds.length) none) (start N vs) (fun _ => none) H := by
  have hl := hr.length
  have hpl := purP_len hp
  have hs : start N vs = vs.map some ++ List.replicate (N.length - vs.length) none := rfl
  refine ⟨fun _ _ e => e, fun a z => absurd rfl z, by rw [hs]; simp [hl], by simp [hpl], fun i hi => ?_, fun i d e => ?_, fun i v z => (by cases z), fun a o y z => (by cases z)⟩
  · rw [List.getD_eq_getElem?_getD]
    by_cases h1 : i < pf.length
    · rw [List.getElem?_append_left h1, List.getElem?_eq_getElem h1]
      have := List.all_eq_true.mp h19 pf[i] (List.getElem_mem h1)
      simp only [Bool.or_eq_true, beq_iff_eq] at this
      show 1 ≤ pf[i] ∧ pf[i] ≤ 9
      omega
    · rw [List.getElem?_append_right (by omega), List.getElem?_replicate, if_pos (by simp at hi; omega)]
      exact ⟨by decide, by decide⟩
  · by_cases h1 : i < ds.length
    · rw [List.getElem?_append_left (by simpa using h1), List.getElem?_map] at e
      cases ed : ds[i]? with
      | none => rw [ed] at e; cases e
      | some d' =>
        rw [ed] at e
        cases e
        obtain ⟨v, ev, rv⟩ := hr.get ed
        have hv : i < vs.length := (List.getElem?_eq_some_iff.mp ev).1
        refine ⟨v, by rw [hs, List.getElem?_append_left (by simpa using hv), List.getElem?_map, ev]; rfl, ?_⟩
        have ip : i < pf.length := by omega
        have efl : (pf ++ List.replicate (N.length - pf.length) 9).getD i 0 = pf.getD i 0 := by
          rw [List.getD_eq_getElem?_getD, List.getD_eq_getElem?_getD, List.getElem?_append_left ip]
        rw [efl]
        have h9 : pf.getD i 0 = 1 ∨ pf.getD i 0 = 9 := by
          rw [List.getD_eq_getElem?_getD, List.getElem?_eq_getElem ip]
          have := List.all_eq_true.mp h19 pf[i] (List.getElem_mem ip)
          simp only [Bool.or_eq_true, beq_iff_eq] at this
          exact this
        unfold Cl
        rcases h9 with h9 | h9
        · rw [h9]
          exact rv.weak fun a z => absurd rfl z
        · rw [if_pos h9]
          exact ⟨purP_get hp ed h9, rv⟩
    · rw [List.getElem?_append_right (by simp; omega), List.getElem?_replicate] at e
      split at e <;> cases e
/-- what a call promises, by the kind of the def -/
def KindOk (p : Pm) (P : Program) (w : World) (mg : Str → Option Value) (base : Heap) (L : List Dfn) (f k : Nat) (d : Dfn) (adr : Addr) (fd : FuncData) : Prop :=
  (d.kd ≤ 1 → FnOk P w p.K mg base (L2.CX P w) (2 * f + k) adr fd d.ps (spF p d.ps.length (fnL L f) d.R) ∧ ∀ ds, fnL L f ds ≠ .stuck → ds.length = d.ps.length) ∧
  (d.kd = 2 → FnOk P w p.K mg base (L2.CX P w) (2 * f + k) adr fd d.ps (spTI p d.ps.length (fnL L f)) ∧ mg d.name = some (.ref p.tc) ∧ Mk p.K p.tc adr ∧ Binds p.K fd d.ps [] ∧ d.R = 2 ∧ ∀ ds, fnL L f ds ≠ .stuck → ds.length + 1 = d.ps.length)
/-- the exceptions' makers -/
def XinOk (p : Pm) (P : Program) (w : World) (mg : Str → Option Value) (base : Heap) (Y : Xn) : Prop := ∀ c ∈ Y.rs, ∀ fs, Y.xf[c]? = some fs → fs ≠ [] → ∃ fI fd, PySem.W.findIn p.K (.ref (p.cad c)) "__init__" = some (some (.ref fI)) ∧ PySem.W.typeIn p.K (.ref fI) = some (.type "function") ∧ Binds p.K fd ("self" :: fs) [] ∧
    FnOk P w p.K mg base (L2.CX P w) 1 fI fd ("self" :: fs) (spXI (p.cad c) fs)
theorem good_of {X : Cx} {f R : Nat} {W : WX} {Y : Xn} (kq : X.K = p.K) (C : ClsAt p X.mg Y) (xi : XinOk p X.prog X.w X.mg X.base Y) (hR : ∀ g, 2 ≤ rcL L g ∧ rcL L g ≤ 9) (nd : X.N.Nodup) (h2 : 2 ≤ R) (hb : ∀ b ∈ bltNames, X.mg b = none)
    (fn : ∀ g e, g < f → L[g]? = some e → ∃ st adr fd, DefAt p X.mg e st adr fd ∧ KindOk p X.prog X.w X.mg X.base L g 3 e adr fd) (calm : X.calm = true) (hr : Room (2 * f + 2) X.A) (tk : Takes X W) (own : PassesOwn (model X.prog X.w) X.A X.env X.xe) (kind : X.env.scope.kind = .function) (hfn : ∀ x, X.fn x = true)
    (st : X.stack = X.env :: X.outer) (fr : X.env.frame = some X.env.locals) (ex : X.ex = []) :
    GoodS p (nmT L Y f) (gamL L f) (rcL L) (2 * f + 2) R W X := by
  refine ⟨⟨calm, nd, kq, hr, tk, hb, hR, fun g x h => ?_, fun g x h => ?_, fun g x h => ?_, fun h => by rw [kq]; exact C.tok h, C.xok f L, C.xmg, C.con, fun c hc fs e ne => ?_⟩, own, kind, hfn, h2, st, fr, ex⟩
  · obtain ⟨hl, e, he, hk, rfl⟩ := nmK_inv h
    obtain ⟨st', adr', fd', a', k'⟩ := fn g e hl he
    obtain ⟨q1, q2⟩ := k'.1 (by omega)
    have rR : rcL L g = e.R := by unfold rcL; rw [he]
    rw [gamL_lt L hl, rR]
    rw [kq]
    exact ⟨adr', fd', e.ps, a'.hm hk, a'.F.kp, a'.bi, q1.mono (by omega), q2⟩
  · obtain ⟨hl, e, he, hk, rfl⟩ := nmK_inv h
    obtain ⟨st', adr', fd', a', k'⟩ := fn g e hl he
    obtain ⟨q1, q2⟩ := k'.1 (by omega)
    have rR : rcL L g = e.R := by unfold rcL; rw [he]
    rw [gamL_lt L hl, rR]
    rw [kq]
    exact ⟨adr', fd', e.ps, a'.me hk, a'.bi, q1.mono (by omega), q2⟩
  · obtain ⟨hl, e, he, hk, rfl⟩ := nmK_inv h
    obtain ⟨st', adr', fd', a', k'⟩ := fn g e hl he
    obtain ⟨q1, q2, q3, q4, q5, q6⟩ := k'.2 hk
    have rR : rcL L g = e.R := by unfold rcL; rw [he]
    rw [gamL_lt L hl, rR]
    rw [kq]
    exact ⟨2 * f + 1, adr', fd', e.ps, by omega, q2, q3, q4, q1.mono (by omega), q5, q6⟩
  · obtain ⟨fI, fd, i1, i2, i3, i4⟩ := xi c hc fs e ne
    rw [kq]
    exact ⟨1, fI, fd, by omega, i1, i2, i3, i4⟩
/-- a def's body, given what it may call -/
theorem def_run {f : Nat} {d : Dfn} {st : Stmt} {adr : Addr} {fd : FuncData} {Y : Xn} (C : ClsAt p mg Y) (xi : XinOk p P w mg base Y) (hR : ∀ g, 2 ≤ rcL L g ∧ rcL L g ≤ 9) (hd : L[f]? = some d) (at_ : DefAt p mg d st adr fd) (hc : chkD L Y f d st = true) (hb : ∀ b ∈ bltNames, mg b = none)
    (fn : ∀ g e, g < f → L[g]? = some e → ∃ st adr fd, DefAt p mg e st adr fd ∧ KindOk p P w mg base L g 3 e adr fd) : KindOk p P w mg base L f 3 d adr fd := by
  obtain ⟨F, hm, me, bi, sc⟩ := at_
  unfold chkD at hc
  simp only [Bool.and_eq_true, decide_eq_true_eq] at hc
  obtain ⟨⟨⟨⟨⟨c0, c1⟩, c2⟩, c3⟩, c4⟩, c5⟩ := hc
  have rR : rcL L f = d.R := by unfold rcL; rw [hd]
  have h2 := hR f
  rw [rR] at h2
  have e := fnL_eq L hd (by omega)
  refine ⟨fun _ => ⟨F.okX sc (fun vs H Q E h => h.1) (fun cdv A outer s H vs Q E hr h => ?_), fun ds hs => ?_⟩, fun z => by omega⟩
  · obtain ⟨hv, ds, rl, h⟩ := h
    rw [e] at h
    have hp : purP d.pf ds = true := by
      by_cases z : purP d.pf ds = true
      · exact z
      · exfalso
        unfold semF at h
        rw [if_neg z] at h
        exact h
    unfold semF at h
    rw [if_pos hp] at h
    have W : WX := fun cls d _ H => E cls d H
    obtain ⟨o, ho⟩ := Option.isSome_iff_exists.mp c5
    let X := cxOf (L2.CX P w) P w p.K mg base d.N d.qn (defScope st) adr cdv A outer s H E
    have g : GoodS p.z0 (nmT L Y f) (gamL L f) (rcL L) (2 * f + 2) d.R (fun cls d _ H => E cls d H) X := good_of (X := X) rfl C xi hR sc.nd h2.1 hb fn rfl hr (takes_of rfl rfl rfl rfl) (passes_of rfl) sc.kind (fun _ => rfl) rfl rfl rfl
    refine ⟨tS p.z0 (gamL L f) (rcL L) d.R (fun cls d _ H => E cls d H) d.body, SB_ok d.body (defBody st) g rfl c4, H, _, _, _, o, Eo.begin_ rl hp c1 (by rw [purP_len hp]; omega), ⟨ho, fun i z => absurd rfl z⟩, ?_⟩
    cases hb : d.body.sem (gamL L f) (ds.map some ++ List.replicate (d.N.length - ds.length) none) with
    | stuck => rw [hb] at h; exact h
    | exc c fs => rw [hb] at h; exact fun cls dd σ' H' s' xr => h cls dd H' s' xr
    | ok u =>
      rw [hb] at h
      cases u with
      | rt x => exact fun v H' s' val => h v H' s' val
      | nx env' =>
        cases o with
        | none => exact absurd hb (tr_end _ _ ho _ _)
        | some f' => exact ⟨f', rfl, fun σ' ow' H' eo _ => h .non H' eo.base (Val.pure (av := nobody) rfl rfl)⟩
  · rw [e] at hs
    by_cases z : purP d.pf ds = true
    · rw [purP_len z, c2]
    · exfalso
      unfold semF at hs
      rw [if_neg z] at hs
      exact hs rfl
/-- all defs of a law -/
theorem defs_run {Y : Xn} (C : ClsAt p mg Y) (xi : XinOk p P w mg base Y) (hR : ∀ g, 2 ≤ rcL L g ∧ rcL L g ≤ 9) (hb : ∀ b ∈ bltNames, mg b = none)
    (at_ : ∀ f d, L[f]? = some d → ∃ st adr fd, DefAt p mg d st adr fd ∧ ((∀ g e, g < f → L[g]? = some e → ∃ st adr fd, DefAt p mg e st adr fd ∧ KindOk p P w mg base L g 3 e adr fd) → KindOk p P w mg base L f 3 d adr fd)) :
    ∀ (f : Nat) (d : Dfn), L[f]? = some d → ∃ st adr fd, DefAt p mg d st adr fd ∧ KindOk p P w mg base L f 3 d adr fd := by
  intro f
  induction f using Nat.strongRecOn with
  | ind f ih =>
    intro d hd
    obtain ⟨st, adr, fd, a, k⟩ := at_ f d hd
    exact ⟨st, adr, fd, a, k fun g e hl he => ih g hl e he⟩
theorem rcl_of (h : (L.all fun d => decide (2 ≤ d.R ∧ d.R ≤ 9)) = true) (g : Nat) : 2 ≤ rcL L g ∧ rcL L g ≤ 9 := by
  unfold rcL
  cases e : L[g]? with
  | none => exact ⟨by decide, by decide⟩
  | some d => exact of_decide_eq_true (List.all_eq_true.mp h d (List.mem_of_getElem? e))
/-- the law's own promise -/
def spLaw (p : Pm) : Sp := fun vs H Q _ => ∃ (a : Addr) (ns : List Int), vs = [.ref a] ∧ ns.length ≤ 63 ∧ ScrAt p.K H a (ns.map V.int) ∧ ∀ H', Q (.bl true) H'
theorem law_sp {n R : Nat} {F : Fn} (hn : n = 1) (hR : R ≤ 9) (pure : ∀ ns : List Int, ns.length ≤ 63 → F [.scr ns] = .ok (.bl true)) : ∀ vs H Q E, spLaw p vs H Q E → spF p n F R vs H Q E := by
  rintro vs H Q E ⟨a, ns, rfl, hl, hs, q⟩
  refine ⟨hn ▸ rfl, [.scr ns], ⟨.ref a, [], rfl, ⟨a, rfl, hs⟩, rfl⟩, ?_⟩
  rw [pure ns hl]
  intro v H' s val
  have : v = .bl true := val.rep (A := avR H) (H0 := H) hR ⟨fun a z => z.elim, fun a z => z.elim, fun a z => z⟩
  subst this
  exact q H'
theorem noCX {P : Program} {w : World} {H : Hp} {s : Shared} {e : Value} {s' : Shared} (h : L2.CX P w [] H s (fun _ _ _ => False) e s') : False := by
  obtain ⟨a, B, H', cls, d, _, _, _, _, _, _, _, z⟩ := h
  exact z
end
end Tr

/-! The own class's __init__; the exceptions' ones. -/
namespace Tr
open PySem PySem.Spec PyProof.Rows L2

/-! ### exceptions with fields -/
theorem xzip1 {f : Str} {u : V} : ∀ k v, ([f].zip [u]).lookup k = some v → ([(f, u)] : List (Str × V)).lookup k = some v := fun _ _ h => h
theorem xinit1 {P : Program} {w : World} {K : PySem.W.Frag} {mg : Str → Option Value} {base : Heap} {C fI : Addr} {qn f : Str} {st : Stmt} {fd : FuncData} {q1 q2 q3 q4 : Pos} (F : Fun K "__init__" qn st fI fd) (S : FnScope ["self", f] ["self", f] (defScope st))
    (hb : defBody st = [.Assign [.Attribute (.Name "self" q1) f q2] (.Name f q3) q4]) (v0 : visB (defScope st) "self" = true) (v1 : visB (defScope st) f = true) (n1 : nmB f = true) (O : OexC K C) (nf : PySem.W.findIn K (.ref C) f = some none) :
    FnOk P w K mg base (L2.CX P w) 1 fI fd ["self", f] (spXI C [f]) := by
  refine F.okX S (fun vs H Q E h => ?_) (fun cdv A outer s H vs Q E hr h => ?_)
  · obtain ⟨a, ws, rfl, hl, _⟩ := h
    simp at hl ⊢; exact hl
  · obtain ⟨a, ws, rfl, hl, ha, k⟩ := h
    match ws, hl with
    | [u], _ =>
      rw [hb]
      refine ⟨_, pss_one (ps_ost (pe_var (i := 0) rfl (vis_of v0) (by decide) (by decide)) (pe_var (i := 1) rfl (vis_of v1) (nm_of n1).1 (nm_of n1).2)), ?_⟩
      refine ⟨u, rfl, .ref a, rfl, a, C, rfl, O, nf, .inl ⟨ha, fun dx ndx nda => ?_⟩⟩
      refine k dx [(f, u)] _ ndx upd_same (by rw [upd_ne nda]; exact upd_same) (fun b o e hb => ?_) xzip1
      rw [upd_ne hb, upd_ne (ne_of_none e ndx)]
      exact e
theorem xinit2 {P : Program} {w : World} {K : PySem.W.Frag} {mg : Str → Option Value} {base : Heap} {C fI : Addr} {qn f g : Str} {st : Stmt} {fd : FuncData} {q1 q2 q3 q4 q5 q6 q7 q8 : Pos} (F : Fun K "__init__" qn st fI fd) (S : FnScope ["self", f, g] ["self", f, g] (defScope st))
    (hb : defBody st = [.Assign [.Attribute (.Name "self" q1) f q2] (.Name f q3) q4, .Assign [.Attribute (.Name "self" q5) g q6] (.Name g q7) q8]) (v0 : visB (defScope st) "self" = true) (v1 : visB (defScope st) f = true) (n1 : nmB f = true) (v2 : visB (defScope st) g = true) (n2 : nmB g = true) (hfg : f ≠ g)
    (O : OexC K C) (nf : PySem.W.findIn K (.ref C) f = some none) (ng : PySem.W.findIn K (.ref C) g = some none) : FnOk P w K mg base (L2.CX P w) 1 fI fd ["self", f, g] (spXI C [f, g]) := by
  refine F.okX S (fun vs H Q E h => ?_) (fun cdv A outer s H vs Q E hr h => ?_)
  · obtain ⟨a, ws, rfl, hl, _⟩ := h
    simp at hl ⊢; exact hl
  · obtain ⟨a, ws, rfl, hl, ha, k⟩ := h
    match ws, hl with
    | [u, v], _ =>
      rw [hb]
      refine ⟨_, pss_cons (ps_ost (pe_var (i := 0) rfl (vis_of v0) (by decide) (by decide)) (pe_var (i := 1) rfl (vis_of v1) (nm_of n1).1 (nm_of n1).2)) (pss_one (ps_ost (pe_var (i := 0) rfl (vis_of v0) (by decide) (by decide)) (pe_var (i := 2) rfl (vis_of v2) (nm_of n2).1 (nm_of n2).2))), ?_⟩
      refine ⟨u, rfl, .ref a, rfl, a, C, rfl, O, nf, .inl ⟨ha, fun dx ndx nda => ?_⟩⟩
      refine ⟨v, rfl, .ref a, rfl, a, C, rfl, O, ng, .inr ⟨dx, [(f, u)], upd_same, by rw [upd_ne nda]; exact upd_same, (by show 1 ≤ 900; decide), ?_⟩⟩
      refine k dx [(g, v), (f, u)] _ ndx (by rw [upd_ne (Ne.symm nda)]; exact upd_same) upd_same (fun b o e hb => ?_) fun x z hx => ?_
      · rw [upd_ne (ne_of_none e ndx), upd_ne hb, upd_ne (ne_of_none e ndx)]
        exact e
      · rw [List.zip_cons_cons, List.zip_cons_cons, List.zip_nil_right, lookup_put, lookup_put] at hx
        rw [lookup_put, lookup_put]
        by_cases e1 : x = f
        · rw [if_pos e1] at hx
          rw [if_neg (fun z => hfg (e1 ▸ z)), if_pos e1]
          exact hx
        · rw [if_neg e1] at hx
          by_cases e2 : x = g
          · rw [if_pos e2] at hx ⊢; exact hx
          · rw [if_neg e2] at hx; cases hx

/-! ### the own class -/
def attrB (N : List Str) (sc : Scope) (f : Str) (e : Expr) : Bool := match e with | .Attribute (.Name n _) g _ => decide (N[0]? = some n) && visB sc n && nmB n && decide (g = f) | _ => false
def chkI (T : Nm) (N : List Str) (pf : List Nat) (sc : Scope) (b : List Stmt) : Bool := match pf, b with
  | [a, b', c], [.Expr x1 _, .Assign [.Name o2 _] x2 _, .Expr x3 _, .Assign [t4] x4 _, .Assign [t5] (.Dict [] [] _) _, .For (.Name pl _) it [.Assign [.Subscript t6 k _] v _] [] _] =>
    decide (N.length = 5) && T.tb && chkE T N (.call a (.cons (.v 1) .nil)) sc x1 && !(isComp x1) && decide (N[3]? = some o2) && locB sc o2 && chkE T N (.call b' (.cons (.v 1) .nil)) sc x2 && !(isComp x2) &&
    chkE T N (.call c (.cons (.v 3) (.cons (.v 2) (.cons (.len (.v 1)) .nil)))) sc x3 && !(isComp x3) && attrB N sc "many" t4 && chkE T N (.lstOf (.pin (.v 1))) sc x4 && !(isComp x4) && attrB N sc "earnings" t5 &&
    decide (N[4]? = some pl) && locB sc pl && chkV N 3 sc it && attrB N sc "earnings" t6 && chkV N 4 sc k && chkE T N (.tupOf (.pin (.dget (.v 2) (.v 4)))) sc v && !(isComp v)
  | _, _ => false
theorem attrB_inv {N : List Str} {sc : Scope} {f : Str} {e : Expr} (h : attrB N sc f e = true) : ∃ n q1 q2, e = .Attribute (.Name n q1) f q2 ∧ N[0]? = some n ∧ visB sc n = true ∧ nmB n = true := by
  unfold attrB at h
  split at h
  · simp only [Bool.and_eq_true, decide_eq_true_eq] at h
    obtain ⟨⟨⟨h1, h2⟩, h3⟩, h4⟩ := h
    subst h4
    exact ⟨_, _, _, rfl, h1, h2, h3⟩
  · cases h
section
variable {p : Pm} {P : Program} {w : World} {mg : Str → Option Value} {base : Heap} {L : List Dfn}
theorem fillD_snoc (kvs : List (List Int × D)) : ∀ {xs ys : List D} {es : List (List Int × D)}, fillD kvs (xs ++ ys) es = (fillD kvs xs es).bind fun es' => fillD kvs ys es'
  | [], ys, es => rfl
  | k :: xs, ys, es => by
    show (match keyD k with | some ks => (match findD kvs ks with | some (.lst zs) => if D.pureL zs = true ∧ es.length < line then fillD kvs (xs ++ ys) (putD es ks (.tup zs)) else .stuck | _ => .stuck) | none => .stuck) = Res.bind (match keyD k with | some ks => (match findD kvs ks with | some (.lst zs) => if D.pureL zs = true ∧ es.length < line then fillD kvs xs (putD es ks (.tup zs)) else .stuck | _ => .stuck) | none => .stuck) _
    cases keyD k with
    | none => rfl
    | some ks =>
      simp only
      split
      · split
        · exact fillD_snoc kvs
        · rfl
      · rfl
theorem fillD_pure (kvs : List (List Int × D)) : ∀ {xs : List D} {es es' : List (List Int × D)}, (∀ k d, (k, d) ∈ es → d.pure = true) → fillD kvs xs es = .ok es' → ∀ k d, (k, d) ∈ es' → d.pure = true
  | [], es, es', h, e => by cases e; exact h
  | k :: xs, es, es', h, e => by
    unfold fillD at e
    split at e
    · rename_i ks hk
      split at e
      · rename_i zs hz
        split at e
        · rename_i hc
          refine fillD_pure kvs (fun k' d hd => ?_) e
          unfold putD at hd
          split at hd
          · obtain ⟨q, hq, e2⟩ := List.mem_map.mp hd
            split at e2
            · cases e2; exact hc.1
            · rw [e2] at hq; exact h _ _ hq
          · rcases List.mem_append.mp hd with hd | hd
            · exact h _ _ hd
            · cases List.mem_singleton.mp hd; exact hc.1
        · cases e
      · cases e
    · cases e
theorem RepK.pureAll {H : Hp} {av av' : Addr → Prop} : ∀ {es : List (List Int × D)} {ws : List (List Key × V)}, (∀ k d, (k, d) ∈ es → d.pure = true) → RepK p H av es ws → RepK p H av' es ws
  | [], ws, _, h => h
  | (k, d) :: es, ws, hp, h => by
    obtain ⟨v, r, rfl, h1, h2⟩ := h
    exact ⟨v, r, rfl, Rep.pure d (hp k d List.mem_cons_self) h1, RepK.pureAll (fun k d hd => hp k d (List.mem_cons_of_mem _ hd)) h2⟩
/-- names whose trees anybody may hold -/
theorem er_one {H H0 : Hp} {env : Env} {σ : L2.St} (hl : env.length = σ.length) (h5 : env.length = 5) (s : Same H0 H) (sl : ∀ (i : Nat) (d : D), env[i]? = some (some d) → ∃ v, σ[i]? = some (some v) ∧ Rep p H nobody d v) : Er p (avR H0) [1, 1, 1, 1, 1] env σ H := by
  refine ⟨⟨fun a z => z.elim, fun a z => z.elim, fun a z => same_nn s z⟩, hl, fun i d e => ?_⟩
  obtain ⟨v, ev, r⟩ := sl i d e
  refine ⟨v, ev, fun _ _ => False, fun a r z => z.elim, ?_⟩
  have hi : i < 5 := by rw [← h5]; exact (List.getElem?_eq_some_iff.mp e).1
  have : ([1, 1, 1, 1, 1] : Fls).getD i 0 = 1 := by
    match i, hi with
    | 0, _ => rfl
    | 1, _ => rfl
    | 2, _ => rfl
    | 3, _ => rfl
    | 4, _ => rfl
  rw [this]
  exact r
theorem er5 {H H0 : Hp} {o1 o2 o3 o4 : Option D} {u0 u1 u2 u3 u4 : Option V} (s : Same H0 H) (h1 : ∀ d, o1 = some d → ∃ v, u1 = some v ∧ Rep p H nobody d v) (h2 : ∀ d, o2 = some d → ∃ v, u2 = some v ∧ Rep p H nobody d v)
    (h3 : ∀ d, o3 = some d → ∃ v, u3 = some v ∧ Rep p H nobody d v) (h4 : ∀ d, o4 = some d → ∃ v, u4 = some v ∧ Rep p H nobody d v) : Er p (avR H0) [1, 1, 1, 1, 1] [none, o1, o2, o3, o4] [u0, u1, u2, u3, u4] H := by
  refine er_one rfl rfl s fun i d e => ?_
  match i, e with
  | 0, e => exact nomatch (show (some none : Option (Option D)) = some (some d) from e)
  | 1, e => obtain ⟨v, q, r⟩ := h1 d (Option.some.inj (show some o1 = some (some d) from e)); exact ⟨v, by rw [← q]; rfl, r⟩
  | 2, e => obtain ⟨v, q, r⟩ := h2 d (Option.some.inj (show some o2 = some (some d) from e)); exact ⟨v, by rw [← q]; rfl, r⟩
  | 3, e => obtain ⟨v, q, r⟩ := h3 d (Option.some.inj (show some o3 = some (some d) from e)); exact ⟨v, by rw [← q]; rfl, r⟩
  | 4, e => obtain ⟨v, q, r⟩ := h4 d (Option.some.inj (show some o4 = some (some d) from e)); exact ⟨v, by rw [← q]; rfl, r⟩
  | n + 5, e => exact nomatch (show (none : Option (Option D)) = some (some d) from e)
theorem one5 {H : Hp} {d : D} {v : V} (r : Rep p H nobody d v) : ∀ e, some d = some e → ∃ w, some v = some w ∧ Rep p H nobody e w := fun e q => by cases q; exact ⟨v, rfl, r⟩
theorem no5 {H : Hp} {u : Option V} : ∀ e, (none : Option D) = some e → ∃ w, u = some w ∧ Rep p H nobody e w := fun e q => nomatch q
theorem val8 {Hb H0 H : Hp} {ss : List D} {v : V} (h : Val p 8 (avR Hb) H0 H (.lst ss) v) : ∃ a vs, v = .ref a ∧ H a = some (.lst vs) ∧ H0 a = none := by
  obtain ⟨tn, f, h⟩ := h
  unfold Cl at h
  rw [if_neg (by decide), if_neg (by decide), if_neg (by decide)] at h
  obtain ⟨a, vs, e, ha, pq, _⟩ := h
  exact ⟨a, vs, e, ha, (f a (by rw [show tn a = some [] from pq]; intro z; cases z)).1⟩
theorem fillD_stk (kvs : List (List Int × D)) : ∀ {xs : List D} {es : List (List Int × D)}, fillD kvs xs es = .stuck ∨ ∃ es', fillD kvs xs es = .ok es'
  | [], es => .inr ⟨es, rfl⟩
  | k :: xs, es => by
    unfold fillD
    split
    · split
      · split
        · exact fillD_stk kvs
        · exact .inl rfl
      · exact .inl rfl
    · exact .inl rfl
theorem ints_pure : ∀ {xs : List D} {ks : List Int}, intsOf xs = some ks → D.pureL xs = true
  | [], _, _ => rfl
  | x :: xs, ks, h => by
    cases x with
    | int i =>
      unfold intsOf at h
      cases e : intsOf xs with
      | none => rw [e] at h; cases h
      | some r => exact (show (D.pure (.int i) && D.pureL xs) = true by rw [ints_pure e]; rfl)
    | _ => cases h
theorem key_pure {d : D} {ks : List Int} (h : keyD d = some ks) : d.pure = true := by
  cases d with
  | tup xs => exact ints_pure h
  | _ => cases h
theorem fillD_keys (kvs : List (List Int × D)) : ∀ {xs : List D} {es es' : List (List Int × D)}, fillD kvs xs es = .ok es' → D.pureL xs = true
  | [], _, _, _ => rfl
  | k :: xs, es, es', e => by
    unfold fillD at e
    split at e
    · rename_i ks hk
      split at e
      · split at e
        · exact (show (k.pure && D.pureL xs) = true by rw [key_pure hk, fillD_keys kvs e]; rfl)
        · cases e
      · cases e
    · cases e
theorem fillD_step {kvs : List (List Int × D)} {order : List D} {tot es : List (List Int × D)} {i : Nat} {dk : D} (ht : fillD kvs order [] = .ok tot) (hi : order[i]? = some dk) (h : fillD kvs (order.take i) [] = .ok es) :
    ∃ ks zs, keyD dk = some ks ∧ findD kvs ks = some (.lst zs) ∧ D.pureL zs = true ∧ es.length < line ∧ fillD kvs (order.take (i + 1)) [] = .ok (putD es ks (.tup zs)) := by
  have ht' : order.take (i + 1) = order.take i ++ [dk] := by rw [List.take_add_one, hi]; rfl
  have hs : fillD kvs (order.take (i + 1)) [] ≠ .stuck := fun z => by
    rw [← List.take_append_drop (i + 1) order, fillD_snoc, z] at ht
    cases ht
  have e1 : fillD kvs (order.take (i + 1)) [] = fillD kvs [dk] es := by rw [ht', fillD_snoc, h]; rfl
  rw [e1] at hs ⊢
  have e2 : fillD kvs [dk] es = match keyD dk with | some ks => (match findD kvs ks with | some (.lst xs) => if D.pureL xs = true ∧ es.length < line then .ok (putD es ks (.tup xs)) else .stuck | _ => .stuck) | none => .stuck := rfl
  rw [e2] at hs ⊢
  cases hk : keyD dk with
  | none => rw [hk] at hs; exact absurd rfl hs
  | some ks =>
    rw [hk] at hs
    simp only at hs ⊢
    split at hs
    · rename_i zs hz
      by_cases c : D.pureL zs = true ∧ es.length < line
      · exact ⟨ks, zs, rfl, hz, c.1, c.2, by rw [if_pos c]⟩
      · rw [if_neg c] at hs; exact absurd rfl hs
    · exact absurd rfl hs
/-- what the maker wants -/
def KI (p : Pm) (H : Hp) (x : Addr) (Q : VK) (E : XK) : Res D → Prop
  | .ok d => ∀ H', (∀ b o, H b = some o → b ≠ x → H' b = some o) → Rep p H' (fun b => H b ≠ none ∧ b ≠ x) d (.ref x) → Q .non H'
  | .exc c fs => ∀ cls dd H', (∀ b o, H b = some o → b ≠ x → H' b = some o) → XR p c fs cls dd H' → E cls dd H'
  | .stuck => False
theorem KI.bind {H : Hp} {x : Addr} {Q : VK} {E : XK} {σ : L2.St} {α : Type} {R : Res α} {f : α → Res D} (h : KI p H x Q E (R.bind f)) : Rs p (fun cls d _ H => E cls d H) σ H R fun a => KI p H x Q E (f a) := by
  cases R with
  | ok a => exact h
  | exc c fs => exact fun cls dd H' s xr => h cls dd H' (fun b o e _ => s b o e) xr
  | stuck => exact h
theorem init_run {f : Nat} {d : Dfn} {st : Stmt} {adr : Addr} {fd : FuncData} {Y : Xn} (C : ClsAt p mg Y) (xi : XinOk p P w mg base Y) (hR : ∀ g, 2 ≤ rcL L g ∧ rcL L g ≤ 9) (hd : L[f]? = some d) (hk : d.kd = 2) (hr2 : d.R = 2) (hp3 : d.ps.length = 3) (hm : mg d.name = some (.ref p.tc)) (M : Mk p.K p.tc adr) (at_ : DefAt p mg d st adr fd)
    (hc : chkI (nmT L Y f) d.N d.pf (defScope st) (defBody st) = true) (hb : ∀ b ∈ bltNames, mg b = none) (fn : ∀ g e, g < f → L[g]? = some e → ∃ st adr fd, DefAt p mg e st adr fd ∧ KindOk p P w mg base L g 3 e adr fd) : KindOk p P w mg base L f 3 d adr fd := by
  obtain ⟨F, _, _, bi, sc⟩ := at_
  have e0 := fnL_mk L hd hk
  unfold chkI at hc
  split at hc
  · rename_i a b c x1 q1 o2 q2 x2 q2' x3 q3 t4 x4 q4 t5 dq q5 pl q6 it t6 k q7 v q8 q9 hpf hbody
    simp only [Bool.and_eq_true, decide_eq_true_eq] at hc
    obtain ⟨⟨⟨⟨⟨⟨⟨⟨⟨⟨⟨⟨⟨⟨⟨⟨⟨⟨⟨⟨c1, c2⟩, c3⟩, c4⟩, c5⟩, c6⟩, c7⟩, c8⟩, c9⟩, c10⟩, c11⟩, c12⟩, c13⟩, c14⟩, c15⟩, c16⟩, c17⟩, c18⟩, c19⟩, c20⟩, c21⟩ := hc
    rw [hpf] at e0
    obtain ⟨tk1, tk2, tk3⟩ := C.tok c2
    have len3 : ∀ ds, fnL L f ds ≠ .stuck → ∃ ss kvs, ds = [.lst ss, .dic kvs] := fun ds hs => by
      rw [e0] at hs
      have hs : mkT (gamL L f) a b c ds ≠ .stuck := hs
      match ds, hs with
      | [.lst ss, .dic kvs], _ => exact ⟨ss, kvs, rfl⟩
      | [], hs => exact absurd rfl hs
      | [x], hs => exact absurd (by cases x <;> rfl) hs
      | x :: y :: z :: r, hs => exact absurd (by cases x <;> cases y <;> rfl) hs
      | [.non, y], hs => exact absurd rfl hs
      | [.bl _, y], hs => exact absurd rfl hs
      | [.int _, y], hs => exact absurd rfl hs
      | [.str _, y], hs => exact absurd rfl hs
      | [.tup _, y], hs => exact absurd rfl hs
      | [.dic _, y], hs => exact absurd rfl hs
      | [.scr _, y], hs => exact absurd rfl hs
      | [.obj _, y], hs => exact absurd rfl hs
      | [.exc _ _, y], hs => exact absurd rfl hs
      | [.lst _, .non], hs => exact absurd rfl hs
      | [.lst _, .bl _], hs => exact absurd rfl hs
      | [.lst _, .int _], hs => exact absurd rfl hs
      | [.lst _, .str _], hs => exact absurd rfl hs
      | [.lst _, .tup _], hs => exact absurd rfl hs
      | [.lst _, .lst _], hs => exact absurd rfl hs
      | [.lst _, .scr _], hs => exact absurd rfl hs
      | [.lst _, .obj _], hs => exact absurd rfl hs
      | [.lst _, .exc _ _], hs => exact absurd rfl hs
    refine ⟨fun z => by omega, fun _ => ⟨F.okX sc (fun vs H Q E h => h.1) (fun cdv A outer s H vs Q E hr h => ?_), hm, M, bi, hr2, fun ds hs => ?_⟩⟩
    · obtain ⟨hl, x, dx, ws, ds, rfl, hx, rl, h⟩ := h
      have h : KI p H x Q E (fnL L f ds) := by
        cases z : fnL L f ds <;> (rw [z] at h; exact h)
      have ns : fnL L f ds ≠ .stuck := fun z => by rw [z] at h; exact h
      obtain ⟨ss, kvs, rfl⟩ := len3 ds ns
      rw [e0] at h
      have h : KI p H x Q E (mkT (gamL L f) a b c [.lst ss, .dic kvs]) := h
      obtain ⟨w1, r1, rfl, hw1, w2, r2, rfl, hw2, hr0⟩ := rl
      have hr0 : r2 = [] := hr0
      subst hr0
      let X := cxOf (L2.CX P w) P w p.K mg base d.N d.qn (defScope st) adr cdv A outer s H E
      have g : GoodS p (nmT L Y f) (gamL L f) (rcL L) (2 * f + 2) 2 (fun cls d _ H => E cls d H) X := good_of (X := X) rfl C xi hR sc.nd (by decide) hb fn rfl hr (takes_of rfl rfl rfl rfl) (passes_of rfl) sc.kind (fun _ => rfl) rfl rfl rfl
      rw [hbody]
      obtain ⟨n4, p4, p4', rfl, s4, s4', s4''⟩ := attrB_inv c11
      obtain ⟨n5, p5, p5', rfl, s5, s5', s5''⟩ := attrB_inv c14
      obtain ⟨n6, p6, p6', rfl, s6, s6', s6''⟩ := attrB_inv c18
      have self : ∀ {n : Str} {q : Pos}, d.N[0]? = some n → visB (defScope st) n = true → nmB n = true → PE X (.Name n q) (tVar 0) := fun h1 h2 h3 => pe_var h1 (vis_of h2) (nm_of h3).1 (nm_of h3).2
      have hu := hu_of g.g.room
      obtain ⟨pit, nit, qit, rfl⟩ := v_ok g rfl c17
      refine ⟨_, pss_cons (ps_expr (E_ok _ x1 _ X g.g rfl c3).1 (sw_no (not_b c4))) (pss_cons (ps_set sc.nd c5 (locB_of c6) (E_ok _ x2 _ X g.g rfl c7).1 (sw_no (not_b c8)) (.inl rfl)) (pss_cons (ps_expr (E_ok _ x3 _ X g.g rfl c9).1 (sw_no (not_b c10)))
        (pss_cons (ps_fld (self s4 s4' s4'') (E_ok _ x4 _ X g.g rfl c12).1 (sw_no (not_b c13))) (pss_cons (ps_fld (self s5 s5' s5'') pe_dnewT rfl) (pss_one (ps_for g.own rfl (pi_list pit) (pg_name sc.nd c15 (locB_of c16) (.inl rfl))
          (pss_one (ps_dput hu (pe_fld (self s6 s6' s6'') rfl) (v_ok g rfl c19).1 (E_ok _ v _ X g.g rfl c20).1 (sw_no (not_b c21)))) (fun _ => rfl))))))), ?_⟩
      have hst : start d.N [.ref x, w1, w2] = [some (.ref x), some w1, some w2, none, none] := by
        show [some (V.ref x), some w1, some w2] ++ List.replicate (d.N.length - 3) none = _
        rw [c1]; rfl
      rw [hst]
      have kx : ∀ {H1 : Hp}, (∀ b o, H b = some o → b ≠ x → H1 b = some o) → Keep (fun b => b = x) H H1 := fun {H1} hh => ⟨fun b o e n => hh b o e n, fun b o e1 e2 => hh b o e2 fun z => by subst z; rw [hx] at e2; cases e2; cases e1⟩
      have rx : ∀ {H1 : Hp} {d' : D} {v' : V}, (∀ b o, H b = some o → b ≠ x → H1 b = some o) → Rep p H (fun b => b = x) d' v' → Rep p H1 nobody d' v' := fun hh r => Rep.keep (kx hh) (fun _ z => z.elim) _ r
      have hs0 : ∀ {H1 : Hp}, Same H H1 → (∀ b o, H b = some o → b ≠ x → H1 b = some o) := fun s b o e _ => s b o e
      refine ⟨[none, some (.lst ss), some (.dic kvs), none, none], [1, 1, 1, 1, 1], avR H, er5 (fun _ _ e => e) (one5 (rx (hs0 fun _ _ e => e) hw1)) (one5 (rx (hs0 fun _ _ e => e) hw2)) no5 no5, (KI.bind (σ := [some (.ref x), some w1, some w2, none, none]) h).mono fun _ _ h v1 H1 s1 _ _ => ?_⟩
      refine ⟨[none, some (.lst ss), some (.dic kvs), none, none], [1, 1, 1, 1, 1], avR H1, er5 (fun _ _ e => e) (one5 (rx (hs0 s1) hw1)) (one5 (rx (hs0 s1) hw2)) no5 no5, ((KI.bind (σ := [some (.ref x), some w1, some w2, none, none]) h).same s1).mono fun od _ h vo H2 s2 val _ => ?_⟩
      have s02 := s1.trans s2
      have rod : Rep p H2 nobody od vo := val.rep (A := avR H1) (H0 := H1) (Tr.E.cls_le hR _ _) ⟨fun a z => z.elim, fun a z => z.elim, fun a z => z⟩
      cases od with
      | lst order => ?_
      | _ => exact h.elim
      refine ⟨[none, some (.lst ss), some (.dic kvs), some (.lst order), none], [1, 1, 1, 1, 1], avR H2, er5 (fun _ _ e => e) (one5 (rx (hs0 s02) hw1)) (one5 (rx (hs0 s02) hw2)) (one5 rod) no5, ((KI.bind (σ := [some (.ref x), some w1, some w2, some vo, none]) h).same s02).mono fun _ _ h v3 H3 s3 _ _ => ?_⟩
      have s03 := s02.trans s3
      have rod := rod.same s3
      by_cases hps : D.pureL ss = true
      case neg =>
        exact (show False by
          have h : KI p H x Q E (if D.pureL ss = true then (fillD kvs order []).bind fun es => .ok (.obj [("many", .lst ss), ("earnings", .dic es)]) else .stuck) := h
          rw [if_neg hps] at h; exact h).elim
      have h : KI p H x Q E (if D.pureL ss = true then (fillD kvs order []).bind fun es => .ok (.obj [("many", .lst ss), ("earnings", .dic es)]) else .stuck) := h
      rw [if_pos hps] at h
      rcases fillD_stk kvs (xs := order) (es := []) with z | ⟨tot, htot⟩
      · rw [z] at h; exact h.elim
      rw [htot] at h
      have fin : ∀ H', (∀ b o, H b = some o → b ≠ x → H' b = some o) → Rep p H' (fun b => H b ≠ none ∧ b ≠ x) (.obj [("many", .lst ss), ("earnings", .dic tot)]) (.ref x) → Q .non H' := h
      refine ⟨[none, some (.lst ss), some (.dic kvs), none, none], [1, 1, 1, 1, 1], avR H3, er5 (fun _ _ e => e) (one5 (rx (hs0 s03) hw1)) (one5 (rx (hs0 s03) hw2)) no5 no5, ?_⟩
      have e4 : ((Tr.E.v 1).pin.lstOf).sem (gamL L f) [none, some (.lst ss), some (.dic kvs), none, none] = .ok (.lst ss) := by
        show Res.bind (if D.pureL ss = true then Res.ok (D.lst ss) else .stuck) lstOfD = _
        rw [if_pos hps]; rfl
      rw [e4]
      intro v4 H4 s4h val4 _
      obtain ⟨a4, vs4, rfl, ha4, n4h⟩ := val8 (show Val p 8 (avR H3) H3 H4 (.lst ss) v4 from val4)
      have r4 : Rep p H4 nobody (.lst ss) (.ref a4) := val4.rep (A := avR H3) (H0 := H3) (Tr.E.cls_le hR _ _) ⟨fun a z => z.elim, fun a z => z.elim, fun a z => z⟩
      have s04 := s03.trans s4h
      have hx4 : H4 x = some (.ins p.tc dx []) := s04 _ _ hx
      have na4 : H a4 = none := by
        cases z : H a4 with
        | none => rfl
        | some o => rw [s03 _ _ z] at n4h; cases n4h
      refine ⟨.ref x, rfl, x, p.tc, dx, [], rfl, hx4, tk1, tk2, by decide, ?_⟩
      intro q hq
      have hxa : a4 ≠ x := fun z => by rw [z, hx4] at ha4; cases ha4
      have hqx : q ≠ x := fun z => by rw [z, upd_same] at hq; cases hq
      have h4q : H4 q = none := by rw [upd_ne hqx] at hq; exact hq
      have nq : H q = none := by
        cases z : H q with
        | none => rfl
        | some o => rw [s04 _ _ z] at h4q; cases h4q
      refine ⟨.ref x, rfl, x, p.tc, dx, [("many", .ref a4)], rfl, (by rw [upd_ne (Ne.symm hqx), upd_same]; rfl), tk1, tk3, (by show 1 < 1000; decide), ?_⟩
      have hput : putF "earnings" (.ref q) [("many", V.ref a4)] = ([("many", .ref a4), ("earnings", .ref q)] : List (Str × V)) := rfl
      rw [hput]
      generalize h7e : upd (upd (upd H4 x (.ins p.tc dx (putF "many" (.ref a4) []))) q (.dT [])) x (.ins p.tc dx [("many", .ref a4), ("earnings", .ref q)]) = H7
      have h47 : ∀ b o, H4 b = some o → b ≠ x → H7 b = some o := fun b o e n => by
        rw [← h7e, upd_ne n, upd_ne (fun z => by rw [z, h4q] at e; cases e), upd_ne n]; exact e
      have hx7 : H7 x = some (.ins p.tc dx [("many", .ref a4), ("earnings", .ref q)]) := by rw [← h7e, upd_same]
      have hq7 : H7 q = some (.dT []) := by rw [← h7e, upd_ne hqx, upd_same]
      obtain ⟨ol, ovs, rfl, hol, _, rov⟩ := rod
      have holx : ol ≠ x := fun z => by rw [z, s03 _ _ hx] at hol; cases hol
      have hol7 : H7 ol = some (.lst ovs) := h47 _ _ (s4h _ _ hol) holx
      have holq : ol ≠ q := fun z => by rw [z, hq7] at hol7; cases hol7
      have pord := fillD_keys kvs htot
      have kall : ∀ {H' : Hp}, (∀ b o, H7 b = some o → b ≠ q → H' b = some o) → ∀ b o, H4 b = some o → b ≠ x → H' b = some o := fun kp b o e n => kp b o (h47 b o e n) fun z => by rw [z, h4q] at e; cases e
      refine ⟨.ref ol, rfl, ol, rfl, ⟨ovs, .inl (.inl hol7)⟩, ?_⟩
      refine for_list (xs := ovs) (fun i σ' H' => ∃ u ws es, σ' = [some (.ref x), some w1, some w2, some (.ref ol), u] ∧ (∀ b o, H7 b = some o → b ≠ q → H' b = some o) ∧ H' q = some (.dT ws) ∧ fillD kvs (order.take i) [] = .ok es ∧ RepK p H' nobody es ws)
        ⟨none, [], [], rfl, fun _ _ e _ => e, hq7, rfl, rfl⟩ (fun i σ' H' _ ⟨u, ws, es, e1, kp, e3, e4, e5⟩ => .inl (.inl (kp _ _ hol7 holq))) ?_ ?_
      · rintro i xv σ' H' exv ⟨u, ws, es, rfl, kp, hq', hes, rk⟩
        have hil : i < order.length := by rw [← rov.length]; exact (List.getElem?_eq_some_iff.mp exv).1
        have hdk : order[i]? = some order[i] := List.getElem?_eq_getElem hil
        generalize order[i] = dk at hdk
        obtain ⟨xv', exv', rdk⟩ := rov.get hdk
        rw [exv] at exv'; cases exv'
        obtain ⟨ks, zs, hkk, hz, hpz, hln, hstep⟩ := fillD_step htot hdk hes
        have kH : ∀ b o, H b = some o → b ≠ x → H' b = some o := fun b o e n => kall kp b o (s04 _ _ e) n
        have k3 : Keep (fun b => b = x) H3 H' := ⟨fun b o e n => kall kp b o (s4h _ _ e) n, fun b o e1 e2 => kall kp b o (s4h _ _ e2) fun z => by subst z; rw [s03 _ _ hx] at e2; cases e2; cases e1⟩
        have rdk' : Rep p H' nobody dk xv := Rep.keep k3 (fun _ z => z.elim) dk (Rep.pure dk (key_pure hkk) rdk)
        refine ⟨[none, none, some (.dic kvs), none, some dk], [1, 1, 1, 1, 1], avR H', er5 (fun _ _ e => e) no5 (one5 (rx kH hw2)) no5 (one5 rdk'), ?_⟩
        have e5 : (((Tr.E.v 2).dget (Tr.E.v 4)).pin.tupOf).sem (gamL L f) [none, none, some (.dic kvs), none, some dk] = .ok (.tup zs) := by
          have e6 : dgetD (.dic kvs) dk = .ok (.lst zs) := by unfold dgetD; simp only [hkk, hz]
          show Res.bind (Res.bind (dgetD (.dic kvs) dk) pinD) tupOfD = _
          rw [e6]
          show Res.bind (if D.pureL zs = true then Res.ok (D.lst zs) else .stuck) tupOfD = _
          rw [if_pos hpz]; rfl
        rw [e5]
        intro v5 H8 s8 val5 _
        have r5 : Rep p H8 nobody (.tup zs) v5 := val5.rep (A := avR H') (H0 := H') (Tr.E.cls_le hR _ _) ⟨fun a z => z.elim, fun a z => z.elim, fun a z => z⟩
        have hx8 := s8 _ _ (kp _ _ hx7 (Ne.symm hqx))
        have hq8 := s8 _ _ hq'
        obtain ⟨bk, rfl, hbk⟩ := (rdk'.same s8).key hkk
        refine ⟨.ref x, rfl, x, p.tc, dx, _, .ref q, rfl, hx8, tk1, tk3, rfl, ?_⟩
        refine ⟨.ref bk, rfl, q, _, rfl, DPut.t hq8 hbk (by rw [rk.length]; exact Nat.lt_of_lt_of_le hln (by rw [sizeLine_eq]; decide)), ?_⟩
        have kq : Keep (fun b => b = q) H8 (upd H8 q (.dT (putK ws (ks.map Sum.inl) v5))) := ⟨fun b o e n => by rw [upd_ne n]; exact e, fun b o e1 e2 => by
          rw [upd_ne (fun z => by subst z; rw [hq8] at e2; cases e2; cases e1)]; exact e2⟩
        have pes := fillD_pure kvs (fun k d z => absurd z List.not_mem_nil) hes
        refine ⟨some (.ref bk), _, _, rfl, fun b o e n => by rw [upd_ne n]; exact s8 _ _ (kp b o e n), upd_same, hstep, RepK.put ks (Rep.keep kq (fun _ z => z.elim) _ (Rep.pure (.tup zs) hpz r5)) ?_⟩
        exact RepK.keep kq (fun _ z => z.elim) es (RepK.pureAll pes (RepK.keep (Keep.same s8) (fun _ z => .inl z) es rk))
      · rintro σ' H' ⟨u, ws, es, rfl, kp, hq', hes, rk⟩
        have et : es = tot := by
          rw [rov.length, List.take_length, htot] at hes
          exact (Res.ok.inj hes).symm
        subst et
        have pes := fillD_pure kvs (fun k d z => absurd z List.not_mem_nil) hes
        refine fin H' (fun b o e n => kall kp b o (s04 _ _ e) n) ⟨x, dx, _, rfl, kp _ _ hx7 (Ne.symm hqx), fun z => z.2 rfl, _, _, rfl, ?_, _, _, rfl, ?_, rfl⟩
        · obtain ⟨b, vs, e, hb', _, rl⟩ := r4
          cases e
          have k4 : Keep (fun b => b = x) H4 H' := ⟨fun b o e n => kall kp b o e n, fun b o e1 e2 => kall kp b o e2 fun z => by subst z; rw [hx4] at e2; cases e2; cases e1⟩
          exact ⟨a4, vs, rfl, k4.cell _ _ hb' hxa, fun z => z.1 na4, RepL.pure ss hps (RepL.keep k4 (fun _ z => .inl z) ss (RepL.pure ss hps rl))⟩
        · exact ⟨q, ws, rfl, hq', fun z => z.1 nq, RepK.pureAll pes rk⟩
    · obtain ⟨ss, kvs, rfl⟩ := len3 ds hs
      rw [hp3]; rfl
  · cases hc
end
end Tr

/-! Rows that evaluate terms. -/
namespace Tr
open PySem PySem.Spec PyProof.Rows L2
section
variable {G : Gam} {env : Env}
/-- a loop over these trees -/
noncomputable def forS (G : Gam) (tg : List Nat) (b : S) (ds : List D) (env : Env) : Res Out := forD (fun d env => (setTg tg d env).bind fun env' => b.sem G env') ds env
noncomputable def iffS (G : Gam) (a b : S) (env : Env) (c : Res D) : Res Out := boolD c fun t => if t = true then a.sem G env else b.sem G env
/-- a comprehension over these trees -/
def compE (G : Gam) (tg : List Nat) (e : E) (env : Env) (ds : List D) : Res (List D) := compD (fun d => (setTg tg d (wipeE env tg)).bind fun env' => ((e.sem G env').calm).bind fun x => .ok (some x)) ds
def compI (G : Gam) (tg : List Nat) (c e : E) (env : Env) (ds : List D) : Res (List D) := compD (fun d => (setTg tg d (wipeE env tg)).bind fun env' => boolD ((c.sem G env').calm) fun t => if t = true then ((e.sem G env').calm).bind fun x => .ok (some x) else .ok none) ds
@[simp] theorem sv_skip : S.sem G .skip env = .ok (.nx env) := rfl
@[simp] theorem sv_seq {a b : S} : S.sem G (.seq a b) env = Out.andThen (a.sem G env) (b.sem G) := rfl
@[simp] theorem sv_asg {i : Nat} {e : E} : S.sem G (.asg i e) env = (e.sem G env).bind fun d => .ok (.nx (env.set i (some d))) := rfl
@[simp] theorem sv_ins {x : Nat} {p : Es} {i e : E} : S.sem G (.ins x p i e) env = (p.sem G env).calm.bind fun ks => (i.sem G env).calm.bind fun j => (e.sem G env).calm.bind fun d => (chg x ks (insD j d) env).bind fun env' => .ok (.nx env') := rfl
@[simp] theorem sv_pop {x : Nat} {p : Es} {i : E} : S.sem G (.pop x p i) env = (p.sem G env).calm.bind fun ks => (i.sem G env).calm.bind fun j => (chg x ks (popD j) env).bind fun env' => .ok (.nx env') := rfl
/-- a list is lent -/
def lentR (x l : Nat) (ds : List D) (j : Nat) : Res Out → Res Out
  | .ok (.nx env2) => (match env2[x]? with | some (some c) => .ok (.nx ((env2.set l (some (.lst (ds.set j c)))).set x none)) | _ => .stuck)
  | r => r
theorem sv_brw {x l : Nat} {e : E} {s : S} {i : Int} {ds c : List D} {j : Nat} (h : e.sem G env = .ok (.int i)) (hi : i = (j : Int)) (hl : env[l]? = some (some (.lst ds))) (hj : ds[j]? = some (.lst c)) :
    S.sem G (.brw x l e s) env = lentR x l ds j (S.sem G s ((env.set l none).set x (some (.lst c)))) := by
  subst hi
  have lt : j < ds.length := (List.getElem?_eq_some_iff.mp hj).1
  have e1 : L2.ixN ds.length (j : Int) = some j := by unfold L2.ixN; rw [if_pos (by omega), if_pos (by omega)]; rfl
  have e2 : brwE l (.int (j : Int)) env = .ok (ds, j, c) := by unfold brwE; simp only [hl, e1, hj]
  show ((e.sem G env).calm.bind fun k => (brwE l k env).bind fun jc => _) = _
  rw [h]
  show ((brwE l (.int (j : Int)) env).bind fun jc => _) = _
  rw [e2]
  show (match S.sem G s ((env.set l none).set x (some (.lst c))) with | .ok (.nx env2) => _ | r => r) = _
  cases S.sem G s ((env.set l none).set x (some (.lst c))) with
  | ok o => cases o <;> rfl
  | exc _ _ => rfl
  | stuck => rfl
@[simp] theorem sv_mov {i j : Nat} : S.sem G (.mov i j) env = match env[j]? with | some (some d) => .ok (.nx ((env.set j none).set i (some d))) | _ => .stuck := rfl
@[simp] theorem sv_unp {is : List Nat} {e : E} : S.sem G (.unp is e) env = (e.sem G env).bind fun d => match d with | .tup ds => (setAll is ds env).bind fun env' => .ok (.nx env') | _ => .stuck := rfl
@[simp] theorem sv_par {is : List Nat} {es : Es} : S.sem G (.par is es) env = (es.sem G env).bind fun ds => (setAll is ds env).bind fun env' => .ok (.nx env') := rfl
@[simp] theorem sv_app {x : Nat} {p : Es} {e : E} : S.sem G (.app x p e) env = (p.sem G env).calm.bind fun ks => (e.sem G env).calm.bind fun d => (chg x ks (appD d) env).bind fun env' => .ok (.nx env') := rfl
@[simp] theorem sv_set {x : Nat} {p : Es} {i e : E} : S.sem G (.set x p i e) env = (p.sem G env).calm.bind fun ks => (i.sem G env).calm.bind fun j => (e.sem G env).bind fun d => (chg x ks (setD j d) env).bind fun env' => .ok (.nx env') := rfl
@[simp] theorem sv_put {x : Nat} {p : Es} {i e : E} : S.sem G (.put x p i e) env = (p.sem G env).calm.bind fun ks => (i.sem G env).calm.bind fun j => (e.sem G env).bind fun d => (chg x ks (dputD j d) env).bind fun env' => .ok (.nx env') := rfl
@[simp] theorem sv_iff {c : E} {a b : S} : S.sem G (.iff c a b) env = iffS G a b env (c.sem G env) := rfl
@[simp] theorem sv_for {tg : List Nat} {it : It} {b : S} : S.sem G (.for_ tg it b) env = (it.sem G env).bind fun ds => forS G tg b ds env := rfl
@[simp] theorem sv_ret {e : E} : S.sem G (.ret e) env = (e.sem G env).bind fun d => .ok (.rt d) := rfl
@[simp] theorem sv_drop {e : E} : S.sem G (.drop e) env = (e.sem G env).bind fun _ => .ok (.nx env) := rfl
@[simp] theorem sv_dem {i f : Nat} {s : S} : S.sem G (.dem i f s) env = s.sem G env := rfl
@[simp] theorem sv_rse {c : Nat} : S.sem G (.rse c) env = .exc c [] := rfl
@[simp] theorem sv_rsf {c : Nat} {fs : List Str} {es : Es} : S.sem G (.rsf c fs es) env = (es.sem G env).bind fun ds => match mkFs fs ds with | some g => .exc c g | none => .stuck := rfl
theorem try_ok {e : E} {x : Nat} {h : List (Nat × Eh)} {d : D} (q : e.sem G env = .ok d) : S.sem G (.try_ e x h) env = .ok (.nx env) := by
  show (match e.sem G env with | .ok _ => Res.ok (Out.nx env) | .exc c fs => (runH h (env.set x (some (.exc c fs)))).bind fun env' => .ok (.nx (env'.set x none)) | .stuck => .stuck) = _
  rw [q]
theorem try_exc {e : E} {x : Nat} {h : List (Nat × Eh)} {c : Nat} {fs : List (Str × Int)} (q : e.sem G env = .exc c fs) : S.sem G (.try_ e x h) env = (runH h (env.set x (some (.exc c fs)))).bind fun env' => .ok (.nx (env'.set x none)) := by
  show (match e.sem G env with | .ok _ => Res.ok (Out.nx env) | .exc c fs => (runH h (env.set x (some (.exc c fs)))).bind fun env' => .ok (.nx (env'.set x none)) | .stuck => .stuck) = _
  rw [q]
@[simp] theorem iffS_t {a b : S} : iffS G a b env (.ok (.bl true)) = a.sem G env := rfl
@[simp] theorem iffS_f {a b : S} : iffS G a b env (.ok (.bl false)) = b.sem G env := rfl
theorem iffS_b {a b : S} {c : Bool} : iffS G a b env (.ok (.bl c)) = if c = true then a.sem G env else b.sem G env := rfl
@[simp] theorem forS_nil {tg : List Nat} {b : S} : forS G tg b [] env = .ok (.nx env) := rfl
theorem forS_cons {tg : List Nat} {b : S} {d : D} {r : List D} : forS G tg b (d :: r) env = Out.andThen ((setTg tg d env).bind fun env' => b.sem G env') (forS G tg b r) := rfl
theorem forS_one {i : Nat} {b : S} {d : D} {r : List D} : forS G [i] b (d :: r) env = Out.andThen (b.sem G (env.set i (some d))) (forS G [i] b r) := rfl
theorem forS_two {i j : Nat} {b : S} {d e : D} {r : List D} : forS G [i, j] b (.tup [d, e] :: r) env = Out.andThen (b.sem G ((env.set i (some d)).set j (some e))) (forS G [i, j] b r) := rfl
theorem whl_step {c : E} {b : S} : S.sem G (.whl c b) env = boolD (c.sem G env) fun t => if t = true then Out.andThen (b.sem G env) (S.sem G (.whl c b)) else .ok (.nx env) := whileD_step _ _ _
theorem whl_t {c : E} {b : S} (h : c.sem G env = .ok (.bl true)) : S.sem G (.whl c b) env = Out.andThen (b.sem G env) (S.sem G (.whl c b)) := by rw [whl_step, h]; rfl
theorem whl_f {c : E} {b : S} (h : c.sem G env = .ok (.bl false)) : S.sem G (.whl c b) env = .ok (.nx env) := by rw [whl_step, h]; rfl
@[simp] theorem ev_int {i : Int} : E.sem G (.int i) env = .ok (.int i) := rfl
@[simp] theorem ev_bl {i : Bool} : E.sem G (.bl i) env = .ok (.bl i) := rfl
@[simp] theorem ev_non : E.sem G .non env = .ok .non := rfl
@[simp] theorem ev_str {s : Str} : E.sem G (.str s) env = .ok (.str s) := rfl
def getE (env : Env) (i : Nat) : Res D := match env[i]? with | some (some d) => .ok d | _ => .stuck
@[simp] theorem ev_v {i : Nat} : E.sem G (.v i) env = getE env i := rfl
@[simp] theorem getE_0 {d : D} {r : Env} : getE (some d :: r) 0 = .ok d := rfl
@[simp] theorem getE_s {o : Option D} {r : Env} {i : Nat} : getE (o :: r) (i + 1) = getE r i := rfl
@[simp] theorem ev_pur {e : E} : E.sem G (.pur e) env = (e.sem G env).bind fun d => if d.pure = true then .ok d else .stuck := rfl
@[simp] theorem ev_pin {e : E} : E.sem G (.pin e) env = (e.sem G env).bind pinD := rfl
@[simp] theorem ev_ar {op : AOp} {a b : E} : E.sem G (.ar op a b) env = (a.sem G env).bind fun x => (b.sem G env).bind fun y => op.sem x y := rfl
@[simp] theorem ev_neg {a : E} : E.sem G (.neg a) env = (a.sem G env).bind negD := rfl
@[simp] theorem ev_cmp {op : COp} {a b : E} : E.sem G (.cmp op a b) env = (a.sem G env).bind fun x => (b.sem G env).bind fun y => op.sem x y := rfl
@[simp] theorem ev_eq {a b : E} : E.sem G (.eq a b) env = (a.sem G env).bind fun x => (b.sem G env).bind fun y => eqS x y := rfl
@[simp] theorem ev_ne {a b : E} : E.sem G (.ne a b) env = (a.sem G env).bind fun x => (b.sem G env).bind fun y => (eqS x y).bind notD := rfl
@[simp] theorem ev_eqv {a b : E} : E.sem G (.eqv a b) env = (a.sem G env).bind fun x => (b.sem G env).bind fun y => (eqvD x y).bind fun b => .ok (.bl b) := rfl
@[simp] theorem ev_nev {a b : E} : E.sem G (.nev a b) env = (a.sem G env).bind fun x => (b.sem G env).bind fun y => (eqvD x y).bind fun b => .ok (.bl (!b)) := rfl
@[simp] theorem ev_isN {a : E} : E.sem G (.isN a) env = (a.sem G env).bind fun x => .ok (.bl (isNonD x)) := rfl
@[simp] theorem ev_notN {a : E} : E.sem G (.notN a) env = (a.sem G env).bind fun x => .ok (.bl (!isNonD x)) := rfl
@[simp] theorem ev_isB {a b : E} : E.sem G (.isB a b) env = (a.sem G env).bind fun x => (b.sem G env).bind fun y => isBD x y := rfl
@[simp] theorem ao_isBb {i j : Bool} : isBD (.bl i) (.bl j) = .ok (.bl (decide (i = j))) := rfl
@[simp] theorem ao_isBn {j : Bool} : isBD .non (.bl j) = .ok (.bl false) := rfl
@[simp] theorem ev_inn {a b : E} : E.sem G (.inn a b) env = (a.sem G env).bind fun x => (b.sem G env).bind fun y => (inD x y).bind fun b => .ok (.bl b) := rfl
@[simp] theorem ev_notin {a b : E} : E.sem G (.notin a b) env = (a.sem G env).bind fun x => (b.sem G env).bind fun y => (inD x y).bind fun b => .ok (.bl (!b)) := rfl
@[simp] theorem ev_not {a : E} : E.sem G (.not a) env = (a.sem G env).bind notD := rfl
@[simp] theorem ev_and {a b : E} : E.sem G (.and a b) env = andD (a.sem G env) (b.sem G env) := rfl
@[simp] theorem ev_or {a b : E} : E.sem G (.or a b) env = orD (a.sem G env) (b.sem G env) := rfl
@[simp] theorem ev_ix {a b : E} : E.sem G (.ix a b) env = (a.sem G env).bind fun x => (b.sem G env).bind fun y => ixD x y := rfl
@[simp] theorem ev_slL {a : E} {lo hi : O} : E.sem G (.slL a lo hi) env = (a.sem G env).bind fun x => (lo.sem G env).bind fun l => (hi.sem G env).bind fun h => slLD x l h := rfl
@[simp] theorem ev_slT {a : E} {lo hi : O} : E.sem G (.slT a lo hi) env = (a.sem G env).bind fun x => (lo.sem G env).bind fun l => (hi.sem G env).bind fun h => slTD x l h := rfl
@[simp] theorem ev_cat {a b : E} : E.sem G (.cat a b) env = (a.sem G env).bind fun x => (b.sem G env).bind fun y => catD x y := rfl
@[simp] theorem ev_catT {a b : E} : E.sem G (.catT a b) env = (a.sem G env).bind fun x => (b.sem G env).bind fun y => catTD x y := rfl
@[simp] theorem ev_rep {a b : E} : E.sem G (.rep a b) env = (a.sem G env).bind fun x => (b.sem G env).bind fun y => repD x y := rfl
@[simp] theorem ev_tup {es : Es} : E.sem G (.tup es) env = (es.sem G env).bind fun ds => if ds.length ≤ line then .ok (.tup ds) else .stuck := rfl
@[simp] theorem ev_lst {es : Es} : E.sem G (.lst es) env = (es.sem G env).bind fun ds => if ds.length ≤ line then .ok (.lst ds) else .stuck := rfl
@[simp] theorem ev_call {f : Nat} {es : Es} : E.sem G (.call f es) env = (es.sem G env).bind fun ds => G f ds := rfl
@[simp] theorem ev_len {a : E} : E.sem G (.len a) env = (a.sem G env).bind lenD := rfl
@[simp] theorem ev_lstOf {a : E} : E.sem G (.lstOf a) env = (a.sem G env).bind lstOfD := rfl
@[simp] theorem ev_tupOf {a : E} : E.sem G (.tupOf a) env = (a.sem G env).bind tupOfD := rfl
@[simp] theorem ev_lrng {a : E} : E.sem G (.lrng a) env = (a.sem G env).bind fun x => match x with | .int n => if 0 ≤ n ∧ n ≤ line then .ok (.lst (rangeD 0 n)) else .stuck | _ => .stuck := rfl
@[simp] theorem ev_abs {a : E} : E.sem G (.abs a) env = (a.sem G env).bind absD := rfl
@[simp] theorem ev_max2 {a b : E} : E.sem G (.max2 a b) env = (a.sem G env).bind fun x => (b.sem G env).bind fun y => max2D x y := rfl
@[simp] theorem ev_min2 {a b : E} : E.sem G (.min2 a b) env = (a.sem G env).bind fun x => (b.sem G env).bind fun y => min2D x y := rfl
@[simp] theorem ev_sum {a : E} : E.sem G (.sum a) env = (a.sem G env).bind sumD := rfl
@[simp] theorem ev_maxL {a : E} : E.sem G (.maxL a) env = (a.sem G env).bind maxLD := rfl
@[simp] theorem ev_isX {cs : List Nat} {tp : Bool} {a : E} : E.sem G (.isX cs tp a) env = (a.sem G env).bind (isXD cs) := rfl
@[simp] theorem ev_isVE {a : E} : E.sem G (.isVE a) env = (a.sem G env).bind isVED := rfl
@[simp] theorem ev_xf {f : Str} {a : E} : E.sem G (.xf f a) env = (a.sem G env).bind (xfD f) := rfl
@[simp] theorem ev_fld {f : Str} {a : E} : E.sem G (.fld f a) env = (a.sem G env).bind (fldD f) := rfl
@[simp] theorem ev_meth {f : Nat} {m : Str} {a : E} {es : Es} : E.sem G (.meth f m a es) env = (a.sem G env).bind fun x => if noFld m x = true then (es.sem G env).bind fun ds => G f (x :: ds) else .stuck := rfl
@[simp] theorem ev_mk {f : Nat} {es : Es} : E.sem G (.mk f es) env = (es.sem G env).bind fun ds => G f ds := rfl
@[simp] theorem ev_gint {x : Str} {i : Int} : E.sem G (.gint x i) env = .ok (.int i) := rfl
@[simp] theorem ev_isI {t : Ty} {a : E} : E.sem G (.isI t a) env = (a.sem G env).bind fun x => isTy t x := rfl
@[simp] theorem ev_comp {tg : List Nat} {it : It} {e : E} : E.sem G (.comp tg it e) env = (it.sem G env).bind fun ds => (compE G tg e env ds).bind fun r => if r.length ≤ line then .ok (.lst r) else .stuck := rfl
@[simp] theorem ev_compIf {tg : List Nat} {it : It} {c e : E} : E.sem G (.compIf tg it c e) env = (it.sem G env).bind fun ds => (compI G tg c e env ds).bind fun r => if r.length ≤ line then .ok (.lst r) else .stuck := rfl
@[simp] theorem ev_dnew : E.sem G .dnew env = .ok (.dic []) := rfl
@[simp] theorem ev_dget {a b : E} : E.sem G (.dget a b) env = (a.sem G env).bind fun x => (b.sem G env).bind fun y => dgetD x y := rfl
@[simp] theorem ev_din {a b : E} : E.sem G (.din a b) env = (a.sem G env).bind fun x => (b.sem G env).bind fun y => (dinD x y).bind fun b => .ok (.bl b) := rfl
@[simp] theorem ev_dnotin {a b : E} : E.sem G (.dnotin a b) env = (a.sem G env).bind fun x => (b.sem G env).bind fun y => (dinD x y).bind fun b => .ok (.bl (!b)) := rfl
@[simp] theorem es_nil : Es.sem G .nil env = .ok [] := rfl
@[simp] theorem es_cons {e : E} {es : Es} : Es.sem G (.cons e es) env = (e.sem G env).bind fun d => (es.sem G env).bind fun ds => .ok (d :: ds) := rfl
@[simp] theorem eo_no : O.sem G .no env = .ok none := rfl
@[simp] theorem eo_yes {e : E} : O.sem G (.yes e) env = (e.sem G env).bind fun d => match d with | .int i => .ok (some i) | _ => .stuck := rfl
@[simp] theorem et_lst {e : E} : It.sem G (.lst e) env = (e.sem G env).bind fun d => match d with | .lst xs => .ok xs | .scr xs => .ok (xs.map D.int) | _ => .stuck := rfl
@[simp] theorem et_tup {e : E} : It.sem G (.tup e) env = (e.sem G env).bind fun d => match d with | .tup xs => .ok xs | _ => .stuck := rfl
@[simp] theorem et_rng {e : E} : It.sem G (.rng e) env = (e.sem G env).bind fun d => match d with | .int n => if small n = true then .ok (rangeD 0 n) else .stuck | _ => .stuck := rfl
@[simp] theorem et_rng2 {a b : E} : It.sem G (.rng2 a b) env = (a.sem G env).bind fun x => (b.sem G env).bind fun y => match x, y with | .int m, .int n => if small m = true ∧ small n = true then .ok (rangeD m n) else .stuck | _, _ => .stuck := rfl
@[simp] theorem et_enum {e : E} : It.sem G (.enum e) env = (e.sem G env).bind fun d => match d with | .lst xs => .ok (xs.zipIdx.map fun p => D.tup [.int p.2, p.1]) | _ => .stuck := rfl
@[simp] theorem et_zip {a b : E} : It.sem G (.zip a b) env = (a.sem G env).bind fun x => (b.sem G env).bind fun y => match x, y with | .lst xs, .lst ys => .ok ((xs.zip ys).map fun p => D.tup [p.1, p.2]) | _, _ => .stuck := rfl
@[simp] theorem et_zipT {a b : E} : It.sem G (.zipT a b) env = (a.sem G env).bind fun x => (b.sem G env).bind fun y => match x, y with | .tup xs, .lst ys => .ok ((xs.zip ys).map fun p => D.tup [p.1, p.2]) | _, _ => .stuck := rfl
@[simp] theorem et_rev {e : E} : It.sem G (.rev e) env = (e.sem G env).bind fun d => match d with | .lst xs => .ok xs.reverse | _ => .stuck := rfl
/-! ### operators -/
@[simp] theorem ao_int {op : AOp} {i j : Int} : op.sem (.int i) (.int j) = op.int i j := rfl
@[simp] theorem ao_add {i j : Int} : AOp.int .add i j = .ok (.int (i + j)) := rfl
@[simp] theorem ao_sub {i j : Int} : AOp.int .sub i j = .ok (.int (i - j)) := rfl
theorem log_lt {n : Nat} (h : n < 2 ^ 63) : n.log2 < 63 := by
  by_cases z : n = 0
  · rw [z]; decide
  · exact (Nat.log2_lt z).mpr h
theorem ao_mul_l {i j : Int} (h : i.natAbs < 2 ^ 63) : AOp.int .mul i j = .ok (.int (i * j)) := by
  have : mulFits i j = true := by unfold mulFits; simp [log_lt h]
  show (if mulFits i j = true then _ else _) = _
  rw [if_pos this]
theorem ao_mul_r {i j : Int} (h : j.natAbs < 2 ^ 63) : AOp.int .mul i j = .ok (.int (i * j)) := by
  have : mulFits i j = true := by unfold mulFits; simp [log_lt h]
  show (if mulFits i j = true then _ else _) = _
  rw [if_pos this]
theorem log_le {n k : Nat} (h : n < 2 ^ (k + 1)) : n.log2 ≤ k := by
  by_cases z : n = 0
  · rw [z]; exact Nat.zero_le _
  · exact Nat.le_of_lt_succ ((Nat.log2_lt z).mpr h)
theorem ao_mul_b {i j : Int} {a b : Nat} (h1 : i.natAbs < 2 ^ (a + 1)) (h2 : j.natAbs < 2 ^ (b + 1)) (h : a + b < 1000000) : AOp.int .mul i j = .ok (.int (i * j)) := by
  have : mulFits i j = true := by
    unfold mulFits
    have := log_le h1
    have := log_le h2
    simp only [Bool.or_eq_true, decide_eq_true_eq]
    omega
  show (if mulFits i j = true then _ else _) = _
  rw [if_pos this]
theorem log_le' {n k : Nat} (h : n < 2 ^ (k + 1)) : n.log2 ≤ k := by
  by_cases z : n = 0
  · rw [z]; exact Nat.zero_le _
  · exact Nat.le_of_lt_succ ((Nat.log2_lt z).mpr h)
/-- by a small divisor above nought -/
theorem ao_fdiv {i j : Int} (h : 0 < j) (h2 : j.natAbs.log2 < 9000) : AOp.int .fdiv i j = .ok (.int (i / j)) := by
  show (if j ≠ 0 ∧ j.natAbs.log2 < 9000 then Res.ok (D.int (i.fdiv j)) else .stuck) = _
  rw [if_pos ⟨by omega, h2⟩, Int.fdiv_eq_ediv_of_nonneg i (by omega)]
/-- .. what it divides -/
theorem ao_fdivx {i j c : Int} (h : j ≠ 0) (h2 : j.natAbs.log2 < 9000) (e : i = j * c) : AOp.int .fdiv i j = .ok (.int c) := by
  show (if j ≠ 0 ∧ j.natAbs.log2 < 9000 then Res.ok (D.int (i.fdiv j)) else .stuck) = _
  rw [if_pos ⟨h, h2⟩, e, Int.mul_fdiv_cancel_left _ h]
theorem log_9 {n k : Nat} (h : n < 2 ^ (k + 1)) (hk : k < 9000) : n.log2 < 9000 := Nat.lt_of_le_of_lt (log_le' h) hk
theorem ao_mod {i j : Int} (h : 0 < j) : AOp.int .mod i j = .ok (.int (i % j)) := by
  show (if j ≠ 0 then Res.ok (D.int (i.fmod j)) else .stuck) = _
  rw [if_pos (by omega), Int.fmod_eq_emod_of_nonneg i (by omega)]
theorem ao_pow {i j : Int} (h : 0 ≤ j ∧ j ≤ 1000000 ∧ i.natAbs < 2 ^ 64) : AOp.int .pow i j = .ok (.int (i ^ j.toNat)) := by
  show (if _ then Res.ok (D.int (i ^ j.toNat)) else .stuck) = _
  rw [if_pos h]
@[simp] theorem ao_neg {i : Int} : negD (.int i) = .ok (.int (-i)) := rfl
@[simp] theorem ao_lt {i j : Int} : COp.sem .lt (.int i) (.int j) = .ok (.bl (decide (i < j))) := rfl
@[simp] theorem ao_le {i j : Int} : COp.sem .le (.int i) (.int j) = .ok (.bl (decide (i ≤ j))) := rfl
@[simp] theorem ao_gt {i j : Int} : COp.sem .gt (.int i) (.int j) = .ok (.bl (decide (j < i))) := rfl
@[simp] theorem ao_ge {i j : Int} : COp.sem .ge (.int i) (.int j) = .ok (.bl (decide (j ≤ i))) := rfl
@[simp] theorem ao_eqi {i j : Int} : eqS (.int i) (.int j) = .ok (.bl (decide (i = j))) := rfl
@[simp] theorem ao_eqb {i j : Bool} : eqS (.bl i) (.bl j) = .ok (.bl (decide (i = j))) := rfl
@[simp] theorem ao_not {b : Bool} : notD (.bl b) = .ok (.bl (!b)) := rfl
@[simp] theorem ao_and {a : Bool} {b : Res D} : andD (.ok (.bl a)) b = if a = true then truthR b else .ok (.bl false) := by cases a <;> rfl
@[simp] theorem ao_or {a : Bool} {b : Res D} : orD (.ok (.bl a)) b = if a = true then .ok (.bl true) else truthR b := by cases a <;> rfl
@[simp] theorem ao_abs {i : Int} : absD (.int i) = .ok (.int (i.natAbs : Int)) := by
  show Res.ok (D.int (if i < 0 then -i else i)) = _
  have : (if i < 0 then -i else i) = (i.natAbs : Int) := by split <;> omega
  rw [this]
@[simp] theorem ao_lenL {xs : List D} : lenD (.lst xs) = .ok (.int xs.length) := rfl
@[simp] theorem ao_lenT {xs : List D} : lenD (.tup xs) = .ok (.int xs.length) := rfl
@[simp] theorem ao_lenS {xs : List Int} : lenD (.scr xs) = .ok (.int xs.length) := rfl
@[simp] theorem ao_lstL {xs : List D} : lstOfD (.lst xs) = .ok (.lst xs) := rfl
@[simp] theorem ao_lstT {xs : List D} : lstOfD (.tup xs) = .ok (.lst xs) := rfl
@[simp] theorem ao_tupL {xs : List D} : tupOfD (.lst xs) = .ok (.tup xs) := rfl
@[simp] theorem ao_tupT {xs : List D} : tupOfD (.tup xs) = .ok (.tup xs) := rfl
theorem ix_l {xs : List D} {n : Nat} {i : Int} {d : D} (hi : i = (n : Int)) (h : xs[n]? = some d) : ixD (.lst xs) (.int i) = .ok d := by
  subst hi
  show (match L2.atI xs (n : Int) with | some d => Res.ok d | none => .stuck) = _
  rw [L2.atI_nat h]
theorem ix_t {xs : List D} {n : Nat} {i : Int} {d : D} (hi : i = (n : Int)) (h : xs[n]? = some d) : ixD (.tup xs) (.int i) = .ok d := by
  subst hi
  show (match L2.atI xs (n : Int) with | some d => Res.ok d | none => .stuck) = _
  rw [L2.atI_nat h]
theorem ix_s {xs : List Int} {n : Nat} {i d : Int} (hi : i = (n : Int)) (h : xs[n]? = some d) : ixD (.scr xs) (.int i) = .ok (.int d) := by
  subst hi
  show (match L2.atI xs (n : Int) with | some d => Res.ok (D.int d) | none => .stuck) = _
  rw [L2.atI_nat h]
@[simp] theorem ix_l0 {x : D} {r : List D} : ixD (.lst (x :: r)) (.int 0) = .ok x := ix_l (n := 0) rfl rfl
@[simp] theorem ix_l1 {x y : D} {r : List D} : ixD (.lst (x :: y :: r)) (.int 1) = .ok y := ix_l (n := 1) rfl rfl
@[simp] theorem ix_l2 {x y z : D} {r : List D} : ixD (.lst (x :: y :: z :: r)) (.int 2) = .ok z := ix_l (n := 2) rfl rfl
@[simp] theorem ix_l3 {x y z u : D} {r : List D} : ixD (.lst (x :: y :: z :: u :: r)) (.int 3) = .ok u := ix_l (n := 3) rfl rfl
@[simp] theorem ix_l4 {x y z u w : D} {r : List D} : ixD (.lst (x :: y :: z :: u :: w :: r)) (.int 4) = .ok w := ix_l (n := 4) rfl rfl
@[simp] theorem ix_t0 {x : D} {r : List D} : ixD (.tup (x :: r)) (.int 0) = .ok x := ix_t (n := 0) rfl rfl
@[simp] theorem ix_t1 {x y : D} {r : List D} : ixD (.tup (x :: y :: r)) (.int 1) = .ok y := ix_t (n := 1) rfl rfl
@[simp] theorem ix_t2 {x y z : D} {r : List D} : ixD (.tup (x :: y :: z :: r)) (.int 2) = .ok z := ix_t (n := 2) rfl rfl
@[simp] theorem ix_t3 {x y z u : D} {r : List D} : ixD (.tup (x :: y :: z :: u :: r)) (.int 3) = .ok u := ix_t (n := 3) rfl rfl
@[simp] theorem ix_t4 {x y z u w : D} {r : List D} : ixD (.tup (x :: y :: z :: u :: w :: r)) (.int 4) = .ok w := ix_t (n := 4) rfl rfl
@[simp] theorem pure_int {i : Int} : D.pure (.int i) = true := rfl
@[simp] theorem pure_bl {i : Bool} : D.pure (.bl i) = true := rfl
@[simp] theorem pure_non : D.pure .non = true := rfl
@[simp] theorem pure_tup {xs : List D} : D.pure (.tup xs) = D.pureL xs := rfl
@[simp] theorem pureL_nil : D.pureL [] = true := rfl
@[simp] theorem pureL_cons {x : D} {xs : List D} : D.pureL (x :: xs) = (x.pure && D.pureL xs) := rfl
theorem pureL_map {α : Type} {f : α → D} (h : ∀ x, (f x).pure = true) : ∀ l : List α, D.pureL (l.map f) = true
  | [] => rfl
  | x :: l => by show ((f x).pure && D.pureL (l.map f)) = true; rw [h x, pureL_map h l]; rfl
@[simp] theorem pureL_ints (l : List Int) : D.pureL (l.map D.int) = true := pureL_map (fun _ => rfl) l
@[simp] theorem pin_ints (l : List Int) : pinD (.lst (l.map D.int)) = .ok (.lst (l.map D.int)) := by
  show (if _ then _ else _) = _
  rw [if_pos (pureL_ints l)]
@[simp] theorem pin_scr (l : List Int) : pinD (.scr l) = .ok (.scr l) := rfl
@[simp] theorem isI_ii {i : Int} : isTy .int (.int i) = .ok (.bl true) := rfl
@[simp] theorem isI_ib {i : Bool} : isTy .int (.bl i) = .ok (.bl true) := rfl
@[simp] theorem isI_bi {i : Int} : isTy .bool (.int i) = .ok (.bl false) := rfl
@[simp] theorem isI_ll {i : List D} : isTy .list (.lst i) = .ok (.bl true) := rfl
@[simp] theorem isI_tt {i : List D} : isTy .tuple (.tup i) = .ok (.bl true) := rfl
theorem cut_to {α : Type} (xs : List α) (k : Nat) : cutD xs none (some (k : Int)) = xs.take k := by
  unfold cutD
  rw [HT.sIx_none, HT.sIx_nat]
  simp only [List.drop_zero, Nat.sub_zero]
  by_cases h : k ≤ xs.length
  · rw [Nat.min_eq_left h]
  · rw [Nat.min_eq_right (by omega), List.take_length, List.take_of_length_le (by omega)]
@[simp] theorem sl_scr {xs : List Int} {lo hi : Option Int} : slLD (.scr xs) lo hi = .ok (.lst (cutD (xs.map D.int) lo hi)) := rfl
@[simp] theorem sl_lst {xs : List D} {lo hi : Option Int} : slLD (.lst xs) lo hi = .ok (.lst (cutD xs lo hi)) := rfl
/-- what stands behind the first n statements -/
def _root_.Tr.S.drp : Nat → S → S
  | 0, s => s
  | n + 1, .seq _ b => S.drp n b
  | n + 1, .dem _ _ s => S.drp (n + 1) s
  | _ + 1, s => s
@[simp] theorem chg_top {x : Nat} {f : D → Res D} {d : D} (h : env[x]? = some (some d)) : chg x [] f env = (f d).bind fun d' => .ok (env.set x (some d')) := by
  unfold chg
  rw [h]
  rfl
theorem app_ok {d : D} {xs : List D} (h : xs.length < line) : appD d (.lst xs) = .ok (.lst (xs ++ [d])) := by
  show (if _ then _ else _) = _
  rw [if_pos h]
theorem set_ok {d : D} {xs : List D} {i : Int} {j : Nat} (hi : i = (j : Int)) (h : j < xs.length) : setD (.int i) d (.lst xs) = .ok (.lst (xs.set j d)) := by
  subst hi
  have : L2.ixN xs.length (j : Int) = some j := by unfold L2.ixN; rw [if_pos (by omega), if_pos (by omega)]; rfl
  show (match L2.ixN xs.length (j : Int) with | some j => Res.ok (D.lst (xs.set j d)) | none => .stuck) = _
  rw [this]
theorem asg_to {env' : Env} {i : Nat} {e : E} {d : D} {r : S} (h : e.sem G env = .ok d) (he : env.set i (some d) = env') : S.sem G (.seq (.asg i e) r) env = S.sem G r env' := by rw [sv_seq, sv_asg, h, ← he]; rfl
theorem iff_to {c : E} {a r : S} (h : c.sem G env = .ok (.bl false)) : S.sem G (.seq (.iff c a .skip) r) env = S.sem G r env := by rw [sv_seq, sv_iff, h]; rfl
theorem call_ev {f : Nat} {es : Es} {ds : List D} {d : D} (h : es.sem G env = .ok ds) (h2 : G f ds = .ok d) : E.sem G (.call f es) env = .ok d := by rw [ev_call, h]; exact h2
/-! ### defs -/
@[simp] theorem outD_rt {d : D} : outD (.ok (.rt d)) = .ok d := rfl
@[simp] theorem outD_nx {e : Env} : outD (.ok (.nx e)) = .ok .non := rfl
theorem fn_go (L : List Dfn) {f : Nat} {d : Dfn} (h : L[f]? = some d) {ds : List D} (hp : purP d.pf ds = true) {e : Env} (he : ds.map some ++ List.replicate (d.N.length - ds.length) none = e) (hk : d.kd ≠ 2 := by decide) : fnL L f ds = outD (d.body.sem (gamL L f) e) := by
  rw [fnL_eq L h hk]
  unfold semF
  rw [if_pos hp, he]
end
end Tr

/-! Plain rows for many laws: loops, comprehensions, equality, divisors. -/
namespace Tr
open PySem PySem.Spec PyProof.Rows L2
section
variable {G : Gam} {env : Env} {α β : Type}
/-- a loop that carries a state -/
theorem forS_rel {i : Nat} {b : S} {c : α → D} {P : β → Env → Prop} {g : β → α → β} : ∀ {xs : List α} {s : β} {env : Env}, (∀ s env x, x ∈ xs → P s env → ∃ env', b.sem G (env.set i (some (c x))) = .ok (.nx env') ∧ P (g s x) env') → P s env →
    ∃ env', forS G [i] b (xs.map c) env = .ok (.nx env') ∧ P (xs.foldl g s) env'
  | [], s, env, _, h => ⟨env, rfl, h⟩
  | x :: xs, s, env, hs, h => by
    obtain ⟨env1, h1, p1⟩ := hs s env x List.mem_cons_self h
    obtain ⟨env2, h2, p2⟩ := forS_rel (xs := xs) (fun s env y hy => hs s env y (List.mem_cons_of_mem _ hy)) p1
    refine ⟨env2, ?_, p2⟩
    rw [List.map_cons, forS_one, h1, then_nx, h2]
theorem forS_rel2 {i j : Nat} {b : S} {c c' : α → D} {P : β → Env → Prop} {g : β → α → β} : ∀ {xs : List α} {s : β} {env : Env}, (∀ s env x, x ∈ xs → P s env → ∃ env', b.sem G ((env.set i (some (c x))).set j (some (c' x))) = .ok (.nx env') ∧ P (g s x) env') → P s env →
    ∃ env', forS G [i, j] b (xs.map fun x => D.tup [c x, c' x]) env = .ok (.nx env') ∧ P (xs.foldl g s) env'
  | [], s, env, _, h => ⟨env, rfl, h⟩
  | x :: xs, s, env, hs, h => by
    obtain ⟨env1, h1, p1⟩ := hs s env x List.mem_cons_self h
    obtain ⟨env2, h2, p2⟩ := forS_rel2 (xs := xs) (fun s env y hy => hs s env y (List.mem_cons_of_mem _ hy)) p1
    refine ⟨env2, ?_, p2⟩
    rw [List.map_cons, forS_two, h1, then_nx, h2]
/-- a loop that puts a value more to a list, each turn -/
theorem forS_app {i : Nat} {b : S} {c : α → D} {v : α → β} {P : List β → Env → Prop} {m : Nat} : ∀ {xs : List α} {acc : List β} {env : Env}, (∀ acc env x, x ∈ xs → acc.length < m → P acc env → ∃ env', b.sem G (env.set i (some (c x))) = .ok (.nx env') ∧ P (acc ++ [v x]) env') → acc.length + xs.length ≤ m → P acc env →
    ∃ env', forS G [i] b (xs.map c) env = .ok (.nx env') ∧ P (acc ++ xs.map v) env'
  | [], acc, env, _, _, h => ⟨env, rfl, by simpa using h⟩
  | x :: xs, acc, env, hs, hm, h => by
    rw [List.length_cons] at hm
    obtain ⟨env1, h1, p1⟩ := hs acc env x List.mem_cons_self (by omega) h
    obtain ⟨env2, h2, p2⟩ := forS_app (xs := xs) (fun s env y hy => hs s env y (List.mem_cons_of_mem _ hy)) (by simp; omega) p1
    refine ⟨env2, ?_, by simpa using p2⟩
    rw [List.map_cons, forS_one, h1, then_nx, h2]
/-- a loop that only looks -/
theorem forS_all {i : Nat} {b : S} {c : α → D} {P : Env → Prop} {xs : List α} {env : Env} (hs : ∀ env x, x ∈ xs → P env → ∃ env', b.sem G (env.set i (some (c x))) = .ok (.nx env') ∧ P env') (h : P env) : ∃ env', forS G [i] b (xs.map c) env = .ok (.nx env') ∧ P env' :=
  forS_rel (β := Unit) (P := fun _ => P) (g := fun _ _ => ()) (s := ()) (fun _ => hs) h
theorem forS_all2 {i j : Nat} {b : S} {c c' : α → D} {P : Env → Prop} {xs : List α} {env : Env} (hs : ∀ env x, x ∈ xs → P env → ∃ env', b.sem G ((env.set i (some (c x))).set j (some (c' x))) = .ok (.nx env') ∧ P env') (h : P env) : ∃ env', forS G [i, j] b (xs.map fun x => D.tup [c x, c' x]) env = .ok (.nx env') ∧ P env' :=
  forS_rel2 (β := Unit) (P := fun _ => P) (g := fun _ _ => ()) (s := ()) (fun _ => hs) h
/-- a comprehension, item by item -/
theorem compE_one {i : Nat} {e : E} {c r : α → D} : ∀ {xs : List α}, (∀ x ∈ xs, e.sem G ((env.set i none).set i (some (c x))) = .ok (r x)) → compE G [i] e env (xs.map c) = .ok (xs.map r)
  | [], _ => rfl
  | x :: xs, h => by
    have h1 := h x List.mem_cons_self
    have ih := compE_one (xs := xs) fun y hy => h y (List.mem_cons_of_mem _ hy)
    unfold compE at ih ⊢
    rw [show wipeE env [i] = env.set i none from rfl] at ih
    show (Res.bind ((e.sem G ((wipeE env [i]).set i (some (c x)))).calm.bind fun y => .ok (some y)) fun o => _) = _
    rw [show wipeE env [i] = env.set i none from rfl, h1]
    show (Res.bind (compD _ (xs.map c)) fun ds => .ok (optCons (some (r x)) ds)) = _
    rw [ih]
    rfl
theorem compI_one {i : Nat} {k e : E} {c r : α → D} {t : α → Bool} : ∀ {xs : List α}, (∀ x ∈ xs, k.sem G ((env.set i none).set i (some (c x))) = .ok (.bl (t x))) → (∀ x ∈ xs, t x = true → e.sem G ((env.set i none).set i (some (c x))) = .ok (r x)) → compI G [i] k e env (xs.map c) = .ok ((xs.filter t).map r)
  | [], _, _ => rfl
  | x :: xs, h, h' => by
    have h1 := h x List.mem_cons_self
    have h2 := h' x List.mem_cons_self
    have ih := compI_one (xs := xs) (fun y hy => h y (List.mem_cons_of_mem _ hy)) fun y hy => h' y (List.mem_cons_of_mem _ hy)
    unfold compI at ih ⊢
    rw [show wipeE env [i] = env.set i none from rfl] at ih
    show (Res.bind (boolD ((k.sem G ((wipeE env [i]).set i (some (c x)))).calm) fun t => if t = true then ((e.sem G ((wipeE env [i]).set i (some (c x)))).calm).bind fun y => .ok (some y) else .ok none) fun o => _) = _
    rw [show wipeE env [i] = env.set i none from rfl, h1]
    cases ht : t x with
    | false =>
      rw [List.filter_cons_of_neg (by simp [ht])]
      show (Res.bind (compD _ (xs.map c)) fun ds => .ok (optCons none ds)) = _
      rw [ih]
      rfl
    | true =>
      rw [h2 ht, List.filter_cons_of_pos ht]
      show (Res.bind (compD _ (xs.map c)) fun ds => .ok (optCons (some (r x)) ds)) = _
      rw [ih]
      rfl
theorem rangeD_map (n : Nat) : rangeD 0 (n : Int) = (List.range n).map fun i => D.int (i : Nat) := by
  unfold rangeD
  rw [show ((n : Int) - 0).toNat = n by omega]
  simp
theorem sum_ints (xs : List Int) : sumD (.lst (xs.map D.int)) = .ok (.int xs.sum) := by
  show (match intsOf (xs.map D.int) with | some ns => Res.ok (D.int ns.sum) | none => .stuck) = _
  rw [intsOf_ints]
theorem eqvI (a b : List Int) : eqvD (.lst (a.map D.int)) (.lst (b.map D.int)) = .ok (decide (a = b)) := by
  have pl : ∀ xs : List Int, D.pyL (xs.map D.int) = some (xs.map PyData.int) := fun xs => by
    induction xs with
    | nil => rfl
    | cons x xs ih =>
      show (match D.py (.int x), D.pyL (xs.map D.int) with | some x, some xs => some (x :: xs) | _, _ => none) = _
      rw [ih]; rfl
  have cl : ∀ xs : List Int, PyData.canLayAll0 (xs.map PyData.int) = true := fun xs => by
    induction xs with
    | nil => rfl
    | cons x xs ih => exact ih
  have dp : ∀ xs : List Int, PyData.depthAll (xs.map PyData.int) = 0 := fun xs => by
    induction xs with
    | nil => rfl
    | cons x xs ih =>
      show max 0 (PyData.depthAll (xs.map PyData.int)) = 0
      rw [ih]; rfl
  have sh : ∀ xs : List Int, SeqAt.shaped (.list (xs.map PyData.int)) = true := fun xs => by
    unfold SeqAt.shaped
    rw [show (PyData.list (xs.map PyData.int)).canLay0 = true from cl xs, show (PyData.list (xs.map PyData.int)).depth = 1 by show PyData.depthAll _ + 1 = 1; rw [dp]]
    rfl
  have ev : ∀ xs ys : List Int, PyData.eqvAll (xs.map PyData.int) (ys.map PyData.int) = decide (xs = ys) := fun xs => by
    induction xs with
    | nil => intro ys; cases ys <;> simp [PyData.eqvAll]
    | cons x xs ih =>
      intro ys
      cases ys with
      | nil => simp [PyData.eqvAll]
      | cons y ys =>
        simp only [List.map_cons, PyData.eqvAll, PyData.eqv, ih]
        by_cases h : x = y <;> simp [h]
  unfold eqvD
  rw [show (D.lst (a.map D.int)).py = some (.list (a.map PyData.int)) by show (D.pyL _).map PyData.list = _; rw [pl]; rfl, show (D.lst (b.map D.int)).py = some (.list (b.map PyData.int)) by show (D.pyL _).map PyData.list = _; rw [pl]; rfl]
  show (if _ then Res.ok (PyData.eqv _ _) else .stuck) = _
  rw [if_pos ⟨sh a, sh b⟩]
  simp only [PyData.eqv, ev]
/-! ### deep equality -/
mutual
theorem eqv_refl : ∀ d : PyData, d.canLay0 = true → PyData.eqv d d = true
  | .none, _ => by simp only [PyData.eqv]
  | .bool a, _ => by simp [PyData.eqv]
  | .int a, _ => by simp [PyData.eqv]
  | .str a, _ => by simp [PyData.eqv]
  | .list xs, h => by simp only [PyData.eqv]; exact eqvAll_refl xs h
  | .tuple xs, h => by simp only [PyData.eqv]; exact eqvAll_refl xs h
  | .dict xs, h => by cases (show false = true from h)
theorem eqvAll_refl : ∀ ds : List PyData, PyData.canLayAll0 ds = true → PyData.eqvAll ds ds = true
  | [], _ => by simp only [PyData.eqvAll]
  | x :: xs, h => by
    have h' : (x.canLay0 && PyData.canLayAll0 xs) = true := h
    rw [Bool.and_eq_true] at h'
    simp only [PyData.eqvAll]
    rw [eqv_refl x h'.1, eqvAll_refl xs h'.2]
    rfl
end
theorem eqvD_refl {d : D} {q : PyData} (h : d.py = some q) (hs : SeqAt.shaped q = true) : eqvD d d = .ok true := by
  unfold eqvD
  rw [h]
  show (if SeqAt.shaped q = true ∧ SeqAt.shaped q = true then Res.ok (PyData.eqv q q) else .stuck) = _
  rw [if_pos ⟨hs, hs⟩, eqv_refl q (SeqAt.canLay_of_shaped hs)]
/-- data that may be compared: of how many layers -/
def PyOk (n : Nat) (d : D) : Prop := ∃ q, d.py = some q ∧ q.canLay0 = true ∧ q.depth ≤ n
theorem PyOk.int {n : Nat} {i : Int} : PyOk n (.int i) := ⟨.int i, rfl, rfl, by show 0 ≤ n; omega⟩
theorem PyOk.bl {n : Nat} {i : Bool} : PyOk n (.bl i) := ⟨.bool i, rfl, rfl, by show 0 ≤ n; omega⟩
theorem pyOkL {n : Nat} : ∀ {ds : List D}, (∀ d ∈ ds, PyOk n d) → ∃ qs, D.pyL ds = some qs ∧ PyData.canLayAll0 qs = true ∧ PyData.depthAll qs ≤ n
  | [], _ => ⟨[], rfl, rfl, by show 0 ≤ n; omega⟩
  | d :: ds, h => by
    obtain ⟨q, e1, e2, e3⟩ := h d List.mem_cons_self
    obtain ⟨qs, f1, f2, f3⟩ := pyOkL (ds := ds) fun x hx => h x (List.mem_cons_of_mem _ hx)
    refine ⟨q :: qs, ?_, ?_, ?_⟩
    · show (match D.py d, D.pyL ds with | some x, some xs => some (x :: xs) | _, _ => none) = _
      rw [e1, f1]
    · show (q.canLay0 && PyData.canLayAll0 qs) = true
      rw [e2, f2]; rfl
    · show max q.depth (PyData.depthAll qs) ≤ n
      omega
theorem PyOk.lst {n : Nat} {ds : List D} (h : ∀ d ∈ ds, PyOk n d) : PyOk (n + 1) (.lst ds) := by
  obtain ⟨qs, f1, f2, f3⟩ := pyOkL h
  exact ⟨.list qs, by show (D.pyL ds).map PyData.list = _; rw [f1]; rfl, f2, by show PyData.depthAll qs + 1 ≤ n + 1; omega⟩
theorem PyOk.tup {n : Nat} {ds : List D} (h : ∀ d ∈ ds, PyOk n d) : PyOk (n + 1) (.tup ds) := by
  obtain ⟨qs, f1, f2, f3⟩ := pyOkL h
  exact ⟨.tuple qs, by show (D.pyL ds).map PyData.tuple = _; rw [f1]; rfl, f2, by show PyData.depthAll qs + 1 ≤ n + 1; omega⟩
theorem PyOk.eqv {n : Nat} {d : D} (h : PyOk n d) (hn : n ≤ 64) : eqvD d d = .ok true := by
  obtain ⟨q, e1, e2, e3⟩ := h
  refine eqvD_refl e1 ?_
  unfold SeqAt.shaped
  rw [e2, decide_eq_true (by omega)]
  rfl
theorem PyOk.ints {n : Nat} (ns : List Int) : PyOk (n + 1) (.lst (ns.map D.int)) := .lst fun d hd => by
  obtain ⟨i, _, rfl⟩ := List.mem_map.mp hd
  exact .int
/-! ### the greatest divisor -/
theorem gcd_step (a b : Int) : Int.gcd b (a % b) = Int.gcd a b := by
  have h : Int.gcd b (a % b + b * (a / b)) = Int.gcd b (a % b) := Int.gcd_add_mul_left_right b (a % b) (a / b)
  rw [Int.emod_add_mul_ediv] at h
  rw [← h, Int.gcd_comm]
/-- of the program: with a name for what is left -/
abbrev bDiv : S := .seq (.asg 0 (.abs (.v 0))) (.seq (.asg 1 (.abs (.v 1))) (.seq (.whl (.cmp .gt (.v 1) (.int 0)) (.seq (.asg 2 (.ar .mod (.v 0) (.v 1))) (.seq (.asg 0 (.v 1)) (.seq (.asg 1 (.v 2)) .skip)))) (.seq (.ret (.v 0)) .skip)))
/-- of the laws: both at once -/
abbrev bDiv2 : S := .seq (.asg 0 (.abs (.v 0))) (.seq (.asg 1 (.abs (.v 1))) (.seq (.whl (.cmp .gt (.v 1) (.int 0)) (.seq (.par [0, 1] (.cons (.v 1) (.cons (.ar .mod (.v 0) (.v 1)) .nil))) .skip)) (.seq (.ret (.v 0)) .skip)))
theorem whl_gcd (G : Gam) : ∀ (n : Nat) (a b : Int) (c : Option D), 0 ≤ a → 0 ≤ b → b.toNat ≤ n → ∃ c', S.sem G (.whl (.cmp .gt (.v 1) (.int 0)) (.seq (.asg 2 (.ar .mod (.v 0) (.v 1))) (.seq (.asg 0 (.v 1)) (.seq (.asg 1 (.v 2)) .skip)))) [some (.int a), some (.int b), c] =
    .ok (.nx [some (.int (Int.gcd a b)), some (.int 0), c']) := by
  intro n
  induction n with
  | zero =>
    intro a b c ha hb hn
    have : b = 0 := by omega
    subst this
    refine ⟨c, ?_⟩
    rw [whl_f (by simp)]
    simp [Int.natAbs_of_nonneg ha]
  | succ n ih =>
    intro a b c ha hb hn
    by_cases h0 : b = 0
    · subst h0
      refine ⟨c, ?_⟩
      rw [whl_f (by simp)]
      simp [Int.natAbs_of_nonneg ha]
    · have hp : 0 < b := by omega
      have l1 := Int.emod_nonneg a h0
      have l2 := Int.emod_lt_of_pos a hp
      obtain ⟨c', h⟩ := ih b (a % b) (some (.int (a % b))) hb l1 (by omega)
      refine ⟨c', ?_⟩
      rw [whl_t (by simp [hp])]
      simp only [sv_seq, sv_asg, sv_skip, ev_ar, ev_v, getE_0, getE_s, Res.ok_bind, ao_int, ao_mod hp, then_nx, List.set_cons_zero, List.set_cons_succ]
      rw [h, gcd_step]
theorem whl_gcd2 (G : Gam) : ∀ (n : Nat) (a b : Int), 0 ≤ a → 0 ≤ b → b.toNat ≤ n → S.sem G (.whl (.cmp .gt (.v 1) (.int 0)) (.seq (.par [0, 1] (.cons (.v 1) (.cons (.ar .mod (.v 0) (.v 1)) .nil))) .skip)) [some (.int a), some (.int b)] =
    .ok (.nx [some (.int (Int.gcd a b)), some (.int 0)]) := by
  intro n
  induction n with
  | zero =>
    intro a b ha hb hn
    have : b = 0 := by omega
    subst this
    rw [whl_f (by simp)]
    simp [Int.natAbs_of_nonneg ha]
  | succ n ih =>
    intro a b ha hb hn
    by_cases h0 : b = 0
    · subst h0
      rw [whl_f (by simp)]
      simp [Int.natAbs_of_nonneg ha]
    · have hp : 0 < b := by omega
      have l1 := Int.emod_nonneg a h0
      have l2 := Int.emod_lt_of_pos a hp
      have h := ih b (a % b) hb l1 (by omega)
      rw [whl_t (by simp [hp])]
      simp only [sv_seq, sv_par, sv_skip, es_cons, es_nil, ev_ar, ev_v, getE_0, getE_s, Res.ok_bind, ao_int, ao_mod hp, then_nx, setAll, List.set_cons_zero, List.set_cons_succ]
      rw [h, gcd_step]
theorem div_sem (G : Gam) (a b : Int) : outD (bDiv.sem G [some (.int a), some (.int b), none]) = .ok (.int (Int.gcd a b)) := by
  obtain ⟨c', h⟩ := whl_gcd G _ (a.natAbs : Int) (b.natAbs : Int) none (by omega) (by omega) (Nat.le_refl _)
  simp only [bDiv, sv_seq, sv_asg, ev_abs, ev_v, getE_0, getE_s, Res.ok_bind, ao_abs, then_nx, List.set_cons_zero, List.set_cons_succ]
  rw [h]
  simp [Int.gcd]
theorem div2_sem (G : Gam) (a b : Int) : outD (bDiv2.sem G [some (.int a), some (.int b)]) = .ok (.int (Int.gcd a b)) := by
  have h := whl_gcd2 G _ (a.natAbs : Int) (b.natAbs : Int) (by omega) (by omega) (Nat.le_refl _)
  simp only [bDiv2, sv_seq, sv_asg, ev_abs, ev_v, getE_0, getE_s, Res.ok_bind, ao_abs, then_nx, List.set_cons_zero, List.set_cons_succ]
  rw [h]
  simp [Int.gcd]
/-- the greatest divisor of a row and m -/
def gcdL (m : Int) (ns : List Int) : Int := ns.foldl (fun m n => (Int.gcd m n : Int)) m
theorem gcdL_dvd : ∀ (ns : List Int) (m : Int), gcdL m ns ∣ m ∧ ∀ n ∈ ns, gcdL m ns ∣ n
  | [], m => ⟨Int.dvd_refl m, fun n h => by cases h⟩
  | n :: ns, m => by
    obtain ⟨h1, h2⟩ := gcdL_dvd ns (Int.gcd m n : Int)
    refine ⟨Int.dvd_trans h1 (Int.gcd_dvd_left ..), fun x hx => ?_⟩
    rcases List.mem_cons.mp hx with rfl | hx
    · exact Int.dvd_trans h1 (Int.gcd_dvd_right ..)
    · exact h2 x hx
theorem gcdL_nonneg : ∀ (ns : List Int) (m : Int), 0 ≤ m → 0 ≤ gcdL m ns
  | [], m, h => h
  | n :: ns, m, h => gcdL_nonneg ns _ (Int.natCast_nonneg _)
theorem gcdL_one : ∀ ns : List Int, gcdL 1 ns = 1
  | [] => rfl
  | n :: ns => by
    show gcdL (Int.gcd 1 n : Int) ns = 1
    rw [show ((Int.gcd 1 n : Nat) : Int) = 1 by simp [Int.gcd]]
    exact gcdL_one ns
theorem gcd_lt {m n : Int} {b : Nat} (hm : m.natAbs < b) (hn : n.natAbs < b) : Int.gcd m n < b := by
  unfold Int.gcd
  by_cases z : m.natAbs = 0
  · rw [z, Nat.gcd_zero_left]; exact hn
  · exact Nat.lt_of_le_of_lt (Nat.gcd_le_left _ (by omega)) hm
theorem gcdL_lt {b : Nat} : ∀ (ns : List Int) (m : Int), m.natAbs < b → (∀ n ∈ ns, n.natAbs < b) → (gcdL m ns).natAbs < b
  | [], m, h, _ => h
  | n :: ns, m, h, hs => gcdL_lt ns _ (by rw [Int.natAbs_natCast]; exact gcd_lt h (hs n List.mem_cons_self)) fun x hx => hs x (List.mem_cons_of_mem _ hx)
end
end Tr

/-! Plain rows: numbers drawn from a script. -/
namespace Tr
open PySem PySem.Spec PyProof.Rows L2
theorem small_ok {n : Int} (h : 0 ≤ n) (h2 : n < 2 ^ 62) : small n = true := by
  unfold small
  simp only [Bool.and_eq_true, decide_eq_true_eq]
  omega
theorem et_rngN {G : Gam} {env : Env} {e : E} {n : Nat} (h : e.sem G env = .ok (.int (n : Int))) (hn : n ≤ 1000000) : It.sem G (.rng e) env = .ok ((List.range n).map fun i => D.int (i : Nat)) := by
  have hs : small (n : Int) = true := small_ok (by omega) (by omega)
  rw [et_rng, h, Res.ok_bind]
  simp only [hs, if_true, rangeD_map]
abbrev bNumB : S := .seq (.asg 4 (.int 0)) (
    .seq (.iff (.cmp .gt (.len (.v 0)) (.int 0))
      (.seq (.asg 4 (.ar .mod (.ix (.v 0) (.ar .mod (.v 3) (.min2 (.len (.v 0)) (.int 63)))) (.ar .add (.ar .pow (.int 10) (.int 60)) (.int 7)))) .skip)
      (.skip)) (
    .seq (.asg 5 (.ar .mod (.v 3) (.v 1))) (
    .seq (.set 2 (.nil) (.v 5) (.ar .mod (.ar .add (.ar .add (.ar .mul (.ix (.v 2) (.v 5)) (.int 48271)) (.v 4)) (.ar .mul (.v 3) (.v 3))) (.ar .add (.ar .pow (.int 10) (.int 60)) (.int 7)))) .skip)))
abbrev bNum : S := .seq (.asg 2 (.comp [3] (.rng (.v 1)) (.int 0))) (
  .dem 2 3 (.seq (.for_ [3] (.rng (.max2 (.v 1) (.min2 (.len (.v 0)) (.int 63)))) bNumB) (
  .seq (.ret (.v 2)) .skip)))
/-- as many numbers, each under this -/
def NumOk (m : Nat) (head : List Int) : Prop := head.length = m ∧ ∀ n ∈ head, 0 ≤ n ∧ n < 1000000000000000000000000000000000000000000000000000000000007
theorem num_sem (G : Gam) (ns : List Int) (m : Nat) (hm : 0 < m) (hm2 : m ≤ 1000) : ∃ head : List Int, outD (bNum.sem G [some (.scr ns), some (.int (m : Int)), none, none, none, none]) = .ok (.lst (head.map D.int)) ∧ NumOk m head := by
  have lz : line = 1000000 := rfl
  have p60 : AOp.int .pow 10 60 = .ok (.int 1000000000000000000000000000000000000000000000000000000000000) := by rw [ao_pow (by decide)]; rfl
  have md : ∀ z, AOp.int .mod z 1000000000000000000000000000000000000000000000000000000000007 = .ok (.int (z % 1000000000000000000000000000000000000000000000000000000000007)) := fun z => ao_mod (by decide)
  have mu : ∀ z, AOp.int .mul z 48271 = .ok (.int (z * 48271)) := fun z => ao_mul_r (by decide)
  -- what is looked at
  let w : Nat := min ns.length 63
  have hw : min2D (.int (ns.length : Int)) (.int 63) = .ok (.int (w : Int)) := by
    show Res.ok (D.int (if (63 : Int) < (ns.length : Int) then 63 else (ns.length : Int))) = _
    have : (if (63 : Int) < (ns.length : Int) then (63 : Int) else (ns.length : Int)) = ((min ns.length 63 : Nat) : Int) := by split <;> omega
    rw [this]
  let k : Nat := max m w
  have hk : max2D (.int (m : Int)) (.int (w : Int)) = .ok (.int (k : Int)) := by
    show Res.ok (D.int (if (w : Int) > (m : Int) then (w : Int) else (m : Int))) = _
    have : (if (w : Int) > (m : Int) then (w : Int) else (m : Int)) = ((max m w : Nat) : Int) := by split <;> omega
    rw [this]
  have w63 : w ≤ 63 := Nat.min_le_right _ _
  have k1000 : k ≤ 1000 := by show max m w ≤ 1000; omega
  have hz : compE G [3] (.int 0) [some (.scr ns), some (.int (m : Int)), none, none, none, none] ((List.range m).map fun i => D.int (i : Nat)) = .ok (((List.range m).map fun _ => (0 : Int)).map D.int) := by
    rw [List.map_map]
    exact compE_one fun i _ => rfl
  have st : ∀ (found : List Int) (env : Env) (i : Nat), i ∈ List.range k → (∃ o3 o4 o5, env = [some (.scr ns), some (.int (m : Int)), some (.lst (found.map D.int)), o3, o4, o5]) ∧ NumOk m found → ∃ env', bNumB.sem G (env.set 3 (some (.int (i : Nat)))) = .ok (.nx env') ∧
      ((∃ o3 o4 o5, env' = [some (.scr ns), some (.int (m : Int)), some (.lst ((found.set (i % m) ((found.getD (i % m) 0 * 48271 + (if 0 < ns.length then ns.getD (i % w) 0 % 1000000000000000000000000000000000000000000000000000000000007 else 0) + (i : Int) * (i : Int)) % 1000000000000000000000000000000000000000000000000000000000007)).map D.int)), o3, o4, o5]) ∧
        NumOk m (found.set (i % m) ((found.getD (i % m) 0 * 48271 + (if 0 < ns.length then ns.getD (i % w) 0 % 1000000000000000000000000000000000000000000000000000000000007 else 0) + (i : Int) * (i : Int)) % 1000000000000000000000000000000000000000000000000000000000007))) := by
    rintro found env i hi ⟨⟨o3, o4, o5, rfl⟩, hl, hb⟩
    have hik : i < k := List.mem_range.mp hi
    have him : i % m < found.length := by rw [hl]; exact Nat.mod_lt _ hm
    have m1 : AOp.int .mod (i : Int) (m : Int) = .ok (.int ((i % m : Nat) : Int)) := by rw [ao_mod (by omega)]; rfl
    have m2 : AOp.int .mul (i : Int) (i : Int) = .ok (.int ((i : Int) * (i : Int))) := ao_mul_l (by omega)
    have x1 : ixD (.lst (found.map D.int)) (.int ((i % m : Nat) : Int)) = .ok (.int (found.getD (i % m) 0)) := by
      refine ix_l rfl ?_
      rw [List.getElem?_map, List.getElem?_eq_getElem him, List.getD_eq_getElem?_getD, List.getElem?_eq_getElem him]
      rfl
    have s1 : ∀ v : Int, setD (.int ((i % m : Nat) : Int)) (.int v) (.lst (found.map D.int)) = .ok (.lst ((found.set (i % m) v).map D.int)) := fun v => by
      rw [set_ok rfl (by rw [List.length_map]; exact him), List.map_set]
    refine ⟨_, ?_, ⟨some (.int (i : Nat)), some (.int (if 0 < ns.length then ns.getD (i % w) 0 % 1000000000000000000000000000000000000000000000000000000000007 else 0)), some (.int ((i % m : Nat) : Int)), rfl⟩, ?_, fun n hn => ?_⟩
    · by_cases h0 : 0 < ns.length
      · have hwp : 0 < w := by show 0 < min ns.length 63; omega
        have m3 : AOp.int .mod (i : Int) (w : Int) = .ok (.int ((i % w : Nat) : Int)) := by rw [ao_mod (by omega)]; rfl
        have hiw : i % w < ns.length := Nat.lt_of_lt_of_le (Nat.mod_lt _ hwp) (Nat.min_le_left _ _)
        have x2 : ixD (.scr ns) (.int ((i % w : Nat) : Int)) = .ok (.int (ns.getD (i % w) 0)) := by
          refine ix_s rfl ?_
          rw [List.getD_eq_getElem?_getD, List.getElem?_eq_getElem hiw]
          rfl
        simp only [bNumB, sv_seq, sv_asg, sv_iff, sv_skip, sv_set, ev_cmp, ev_len, ev_min2, ev_ix, ev_ar, ev_v, ev_int, getE_0, getE_s, es_nil, Res.ok_bind, Res.calm_ok, ao_lenS, ao_gt, ao_int, ao_add, hw, m1, m2, m3, x1, x2, p60, md, mu, s1, then_nx, List.set_cons_zero, List.set_cons_succ, chg_top (show ([some (D.scr ns), some (D.int (m : Int)), some (D.lst (found.map D.int)), some (D.int (i : Nat)), some (D.int (ns.getD (i % w) 0 % 1000000000000000000000000000000000000000000000000000000000007)), some (D.int ((i % m : Nat) : Int))] : Env)[2]? = some (some (D.lst (found.map D.int))) from rfl),
          show decide ((0 : Int) < (ns.length : Int)) = true from decide_eq_true (by omega), iffS_t, if_pos h0, show (1000000000000000000000000000000000000000000000000000000000000 : Int) + 7 = 1000000000000000000000000000000000000000000000000000000000007 from rfl]
      · simp only [bNumB, sv_seq, sv_asg, sv_iff, sv_skip, sv_set, ev_cmp, ev_len, ev_min2, ev_ix, ev_ar, ev_v, ev_int, getE_0, getE_s, es_nil, Res.ok_bind, Res.calm_ok, ao_lenS, ao_gt, ao_int, ao_add, hw, m1, m2, x1, p60, md, mu, s1, then_nx, List.set_cons_zero, List.set_cons_succ, chg_top (show ([some (D.scr ns), some (D.int (m : Int)), some (D.lst (found.map D.int)), some (D.int (i : Nat)), some (D.int 0), some (D.int ((i % m : Nat) : Int))] : Env)[2]? = some (some (D.lst (found.map D.int))) from rfl),
          show decide ((0 : Int) < (ns.length : Int)) = false from decide_eq_false (by omega), iffS_f, if_neg h0, show (1000000000000000000000000000000000000000000000000000000000000 : Int) + 7 = 1000000000000000000000000000000000000000000000000000000000007 from rfl]
    · rw [List.length_set]; exact hl
    · rcases List.mem_or_eq_of_mem_set hn with hn | rfl
      · exact hb n hn
      · omega
  obtain ⟨env, he, ⟨o3, o4, o5, rfl⟩, ok⟩ := forS_rel (G := G) (i := 3) (b := bNumB) (c := fun i : Nat => D.int (i : Nat)) (xs := List.range k) (s := (List.range m).map fun _ => (0 : Int))
    (P := fun found env => (∃ o3 o4 o5, env = [some (.scr ns), some (.int (m : Int)), some (.lst (found.map D.int)), o3, o4, o5]) ∧ NumOk m found)
    (env := [some (.scr ns), some (.int (m : Int)), some (.lst (((List.range m).map fun _ => (0 : Int)).map D.int)), none, none, none]) st
    ⟨⟨none, none, none, rfl⟩, by simp, fun n hn => by
      obtain ⟨_, _, rfl⟩ := List.mem_map.mp hn
      decide⟩
  refine ⟨_, ?_, ok⟩
  have r1 : It.sem G (.rng (.v 1)) [some (.scr ns), some (.int (m : Int)), none, none, none, none] = .ok ((List.range m).map fun i => D.int (i : Nat)) := et_rngN rfl (by omega)
  have r2 : It.sem G (.rng (.max2 (.v 1) (.min2 (.len (.v 0)) (.int 63)))) [some (.scr ns), some (.int (m : Int)), some (.lst (((List.range m).map fun _ => (0 : Int)).map D.int)), none, none, none] = .ok ((List.range k).map fun i => D.int (i : Nat)) :=
    et_rngN (by simp only [ev_max2, ev_min2, ev_len, ev_v, ev_int, getE_0, getE_s, Res.ok_bind, ao_lenS, hw, hk]) (by omega)
  have l1 : (((List.range m).map fun _ => (0 : Int)).map D.int).length ≤ line := by simp [lz]; omega
  simp only [bNum, sv_seq, sv_asg, sv_dem, sv_for, sv_ret, ev_comp, r1, hz, l1, if_true, Res.ok_bind, then_nx, List.set_cons_zero, List.set_cons_succ, r2, he, ev_v, getE_0, getE_s, outD_rt, then_rt]
/-- a loop, turn by turn -/
theorem forS_ind {α : Type} {G : Gam} {i : Nat} {b : S} {c : α → D} : ∀ {xs : List α} {P : Nat → Env → Prop} {env : Env}, (∀ k env x, xs[k]? = some x → P k env → ∃ env', b.sem G (env.set i (some (c x))) = .ok (.nx env') ∧ P (k + 1) env') → P 0 env →
    ∃ env', forS G [i] b (xs.map c) env = .ok (.nx env') ∧ P xs.length env'
  | [], P, env, _, h => ⟨env, rfl, h⟩
  | x :: xs, P, env, hs, h => by
    obtain ⟨env1, h1, p1⟩ := hs 0 env x rfl h
    obtain ⟨env2, h2, p2⟩ := forS_ind (xs := xs) (P := fun k env => P (k + 1) env) (fun k env y e => hs (k + 1) env y (by simpa using e)) p1
    refine ⟨env2, ?_, p2⟩
    rw [List.map_cons, forS_one, h1, then_nx, h2]
theorem ix_int {xs : List Int} {n : Nat} {i : Int} (hi : i = (n : Int)) (h : n < xs.length) : ixD (.lst (xs.map D.int)) (.int i) = .ok (.int (xs.getD n 0)) := by
  refine ix_l hi ?_
  rw [List.getElem?_map, List.getD_eq_getElem?_getD, List.getElem?_eq_getElem h]
  rfl
/-- rows of numbers -/
abbrev rw_ (r : List Int) : D := .lst (r.map D.int)
theorem ix_row {xs : List (List Int)} {n : Nat} {i : Int} (hi : i = (n : Int)) (h : n < xs.length) : ixD (.lst (xs.map rw_)) (.int i) = .ok (rw_ (xs.getD n [])) := by
  refine ix_l hi ?_
  rw [List.getElem?_map, List.getD_eq_getElem?_getD, List.getElem?_eq_getElem h]
  rfl
theorem rows_eq (xs : List (List Int)) : eqvD (.lst (xs.map rw_)) (.lst (xs.map rw_)) = .ok true := by
  refine PyOk.eqv (n := 2) (.lst fun d hd => ?_) (by decide)
  obtain ⟨z, _, rfl⟩ := List.mem_map.mp hd
  exact PyOk.ints z
theorem ix_last {xs : List D} {d : D} (h : xs[xs.length - 1]? = some d) : ixD (.lst xs) (.int (-1)) = .ok d := by
  have hl : 0 < xs.length := by
    have := (List.getElem?_eq_some_iff.mp h).1
    omega
  have : L2.ixN xs.length (-1) = some (xs.length - 1) := by
    unfold L2.ixN
    rw [if_neg (by decide), if_pos (by omega)]
    congr 1
    omega
  show (match L2.atI xs (-1) with | some d => Res.ok d | none => .stuck) = _
  unfold L2.atI
  rw [this]
  show (match xs[xs.length - 1]? with | some d => Res.ok d | none => .stuck) = _
  rw [h]
end Tr

/-! Fractions: the program's tuples are Lean's Rat. -/
namespace Tr
open PySem PySem.Spec PyProof.Rows L2
abbrev frQ (r : Rat) : D := .tup [.int r.num, .int (r.den : Int)]
/-- so many bits -/
def Bt (k : Nat) (r : Rat) : Prop := r.num.natAbs < 2 ^ k ∧ r.den < 2 ^ k
theorem Bt.mono {k m : Nat} {r : Rat} (h : Bt k r) (hm : k ≤ m) : Bt m r := ⟨Nat.lt_of_lt_of_le h.1 (Nat.pow_le_pow_right (by decide) hm), Nat.lt_of_lt_of_le h.2 (Nat.pow_le_pow_right (by decide) hm)⟩
theorem divInt_pos (t : Int) {b : Int} (hb : 0 < b) : (Rat.divInt t b).num = t / (Int.gcd t b : Int) ∧ ((Rat.divInt t b).den : Int) = b / (Int.gcd t b : Int) := by
  obtain ⟨n, rfl⟩ : ∃ n : Nat, b = (n : Int) := ⟨b.toNat, by omega⟩
  have hn : n ≠ 0 := by omega
  have e : Rat.divInt t (n : Int) = Rat.normalize t n hn := by
    rw [Rat.divInt_ofNat, Rat.normalize_eq_mkRat]
  rw [e, Rat.normalize_eq]
  constructor
  · show t / ((t.natAbs.gcd n : Nat) : Int) = _
    rfl
  · show ((n / t.natAbs.gcd n : Nat) : Int) = _
    rw [Int.natCast_ediv]
    rfl
/-- what a fraction is of its parts -/
theorem divInt_of (t : Int) {b : Int} (hb : b ≠ 0) : ∃ g : Int, g ≠ 0 ∧ g = (if b < 0 then -(Int.gcd t b : Int) else (Int.gcd t b : Int)) ∧ t = g * (Rat.divInt t b).num ∧ b = g * ((Rat.divInt t b).den : Int) := by
  have pos : ∀ (t b : Int), 0 < b → t = (Int.gcd t b : Int) * (Rat.divInt t b).num ∧ b = (Int.gcd t b : Int) * ((Rat.divInt t b).den : Int) := fun t b hb => by
    obtain ⟨e1, e2⟩ := divInt_pos t hb
    rw [e1, e2]
    exact ⟨(Int.mul_ediv_cancel' (Int.gcd_dvd_left t b)).symm, (Int.mul_ediv_cancel' (Int.gcd_dvd_right t b)).symm⟩
  have g0 : 0 < (Int.gcd t b : Int) := by
    have := Int.gcd_pos_of_ne_zero_right t hb
    omega
  by_cases h : b < 0
  · refine ⟨-(Int.gcd t b : Int), by omega, by rw [if_pos h], ?_⟩
    obtain ⟨e1, e2⟩ := pos (-t) (-b) (by omega)
    rw [Rat.neg_divInt_neg, Int.gcd_neg, Int.neg_gcd] at e1 e2
    constructor
    · rw [Int.neg_mul, ← e1]; omega
    · rw [Int.neg_mul, ← e2]; omega
  · obtain ⟨e1, e2⟩ := pos t b (by omega)
    exact ⟨_, by omega, by rw [if_neg h], e1, e2⟩
theorem divInt_le (t : Int) {b : Int} (hb : b ≠ 0) : (Rat.divInt t b).num.natAbs ≤ t.natAbs ∧ (Rat.divInt t b).den ≤ b.natAbs := by
  obtain ⟨g, g0, _, e1, e2⟩ := divInt_of t hb
  have gp : 0 < g.natAbs := by omega
  have l1 := congrArg Int.natAbs e1
  have l2 := congrArg Int.natAbs e2
  rw [Int.natAbs_mul] at l1 l2
  rw [Int.natAbs_natCast] at l2
  exact ⟨by rw [l1]; exact Nat.le_mul_of_pos_left _ gp, by rw [l2]; exact Nat.le_mul_of_pos_left _ gp⟩
theorem gcd_le {t b : Int} (hb : b ≠ 0) : Int.gcd t b ≤ b.natAbs := by
  unfold Int.gcd
  exact Nat.gcd_le_right _ (by omega)
section
variable {G : Gam}
/-! ### the program's functions (dv, rt: the numbers of divisor, ratio; c: of NoNumber) -/
abbrev bRatio (c dv : Nat) : S :=
  .seq (.iff (.eq (.v 1) (.int 0))
    (.seq (.rse c) .skip)
    (.skip)) (
  .seq (.asg 2 (.call dv (.cons (.v 0) (.cons (.v 1) .nil)))) (
  .seq (.iff (.cmp .lt (.v 1) (.int 0))
    (.seq (.asg 2 (.ar .sub (.int 0) (.v 2))) .skip)
    (.skip)) (
  .seq (.ret (.tup (.cons (.ar .fdiv (.v 0) (.v 2)) (.cons (.ar .fdiv (.v 1) (.v 2)) .nil)))) .skip)))
theorem ratio_zero (c dv : Nat) (t : Int) : outD ((bRatio c dv).sem G [some (.int t), some (.int 0), none]) = .exc c [] := rfl
theorem ratio_sem (c dv : Nat) (hd : ∀ a b : Int, G dv [.int a, .int b] = .ok (.int (Int.gcd a b))) {t b : Int} (hb : b ≠ 0) (hs : b.natAbs < 2 ^ 9000) : outD ((bRatio c dv).sem G [some (.int t), some (.int b), none]) = .ok (frQ (Rat.divInt t b)) := by
  obtain ⟨g, g0, ge, e1, e2⟩ := divInt_of t hb
  have gl : (Int.gcd t b : Int).natAbs < 2 ^ 9000 := by
    have := gcd_le (t := t) hb
    omega
  have lg : g.natAbs.log2 < 9000 := by
    have : g.natAbs < 2 ^ 9000 := by rw [ge]; split <;> omega
    exact (Nat.log2_lt (by omega)).mpr this
  have q1 : AOp.int .fdiv t g = .ok (.int (Rat.divInt t b).num) := ao_fdivx g0 lg e1
  have q2 : AOp.int .fdiv b g = .ok (.int ((Rat.divInt t b).den : Int)) := ao_fdivx g0 lg e2
  by_cases h : b < 0
  · rw [if_pos h] at ge
    have eg : 0 - (Int.gcd t b : Int) = g := by omega
    simp only [bRatio, sv_seq, sv_iff, sv_asg, sv_ret, sv_skip, ev_eq, ev_cmp, ev_call, es_cons, es_nil, ev_tup, ev_ar, ev_v, ev_int, getE_0, getE_s, Res.ok_bind, ao_eqi, decide_eq_false hb, iffS_f, hd, then_nx, List.set_cons_zero, List.set_cons_succ, ao_lt, decide_eq_true h, iffS_t, ao_int, ao_sub, eg, q1, q2]
    rfl
  · rw [if_neg h] at ge
    rw [ge] at q1 q2
    simp only [bRatio, sv_seq, sv_iff, sv_asg, sv_ret, sv_skip, ev_eq, ev_cmp, ev_call, es_cons, es_nil, ev_tup, ev_ar, ev_v, ev_int, getE_0, getE_s, Res.ok_bind, ao_eqi, decide_eq_false hb, iffS_f, hd, then_nx, List.set_cons_zero, List.set_cons_succ, ao_lt, decide_eq_false h, ao_int, q1, q2]
    rfl
/-- ratio, as the others call it -/
def RtOk (G : Gam) (rt : Nat) : Prop := ∀ t b : Int, b ≠ 0 → b.natAbs < 2 ^ 9000 → G rt [.int t, .int b] = .ok (frQ (Rat.divInt t b))
abbrev bPlus (rt : Nat) : S := .seq (.ret (.call rt (.cons (.ar .add (.ar .mul (.ix (.v 0) (.int 0)) (.ix (.v 1) (.int 1))) (.ar .mul (.ix (.v 1) (.int 0)) (.ix (.v 0) (.int 1)))) (.cons (.ar .mul (.ix (.v 0) (.int 1)) (.ix (.v 1) (.int 1))) .nil)))) .skip
abbrev bMinus (rt : Nat) : S := .seq (.ret (.call rt (.cons (.ar .sub (.ar .mul (.ix (.v 0) (.int 0)) (.ix (.v 1) (.int 1))) (.ar .mul (.ix (.v 1) (.int 0)) (.ix (.v 0) (.int 1)))) (.cons (.ar .mul (.ix (.v 0) (.int 1)) (.ix (.v 1) (.int 1))) .nil)))) .skip
abbrev bTimes (rt : Nat) : S := .seq (.ret (.call rt (.cons (.ar .mul (.ix (.v 0) (.int 0)) (.ix (.v 1) (.int 0))) (.cons (.ar .mul (.ix (.v 0) (.int 1)) (.ix (.v 1) (.int 1))) .nil)))) .skip
abbrev bOver (rt : Nat) : S := .seq (.ret (.call rt (.cons (.ar .mul (.ix (.v 0) (.int 0)) (.ix (.v 1) (.int 1))) (.cons (.ar .mul (.ix (.v 0) (.int 1)) (.ix (.v 1) (.int 0))) .nil)))) .skip
abbrev bBelow : S := .seq (.ret (.cmp .lt (.ar .mul (.ix (.v 0) (.int 0)) (.ix (.v 1) (.int 1))) (.ar .mul (.ix (.v 1) (.int 0)) (.ix (.v 0) (.int 1))))) .skip
theorem mulN {i j : Int} {k : Nat} (hk : k ≤ 4000) (h1 : i.natAbs < 2 ^ k) (h2 : j.natAbs < 2 ^ k) : AOp.int .mul i j = .ok (.int (i * j)) := by
  have w := Nat.pow_le_pow_right (show 0 < 2 by decide) (show k ≤ 4000 + 1 by omega)
  exact ao_mul_b (a := 4000) (b := 4000) (by omega) (by omega) (by decide)
theorem mul_lt {a b k m : Nat} (h1 : a < 2 ^ k) (h2 : b < 2 ^ m) : a * b < 2 ^ (k + m) := by
  rw [Nat.pow_add]
  exact Nat.mul_lt_mul'' h1 h2
theorem dd_ne (x y : Rat) : (x.den : Int) * (y.den : Int) ≠ 0 := by
  have := Int.mul_pos (show (0 : Int) < x.den from Int.natCast_pos.mpr x.den_pos) (show (0 : Int) < y.den from Int.natCast_pos.mpr y.den_pos)
  omega
theorem dd_lt {k : Nat} {x y : Rat} (hk : k ≤ 4000) (h1 : Bt k x) (h2 : Bt k y) : ((x.den : Int) * (y.den : Int)).natAbs < 2 ^ 9000 := by
  rw [Int.natAbs_mul, Int.natAbs_natCast, Int.natAbs_natCast]
  exact Nat.lt_of_lt_of_le (mul_lt h1.2 h2.2) (Nat.pow_le_pow_right (by decide) (by omega))
theorem add_divInt (x y : Rat) : x + y = Rat.divInt (x.num * (y.den : Int) + y.num * (x.den : Int)) ((x.den : Int) * (y.den : Int)) := by
  rw [Rat.add_def', ← Rat.divInt_ofNat]
  simp
theorem sub_divInt (x y : Rat) : x - y = Rat.divInt (x.num * (y.den : Int) - y.num * (x.den : Int)) ((x.den : Int) * (y.den : Int)) := by
  rw [Rat.sub_def', ← Rat.divInt_ofNat]
  simp
theorem mul_divInt (x y : Rat) : x * y = Rat.divInt (x.num * y.num) ((x.den : Int) * (y.den : Int)) := by
  rw [Rat.mul_def', ← Rat.divInt_ofNat]
  simp
theorem div_divInt (x y : Rat) : x / y = Rat.divInt (x.num * (y.den : Int)) ((x.den : Int) * y.num) := by
  rw [Rat.div_def, Rat.inv_def]
  conv => lhs; rw [← Rat.num_divInt_den x]
  rw [Rat.divInt_mul_divInt]
theorem plus_sem {rt k : Nat} (hr : RtOk G rt) {x y : Rat} (hk : k ≤ 4000) (h1 : Bt k x) (h2 : Bt k y) : outD ((bPlus rt).sem G [some (frQ x), some (frQ y)]) = .ok (frQ (x + y)) := by
  have m1 : AOp.int .mul x.num (y.den : Int) = .ok (.int (x.num * (y.den : Int))) := mulN hk h1.1 h2.2
  have m2 : AOp.int .mul y.num (x.den : Int) = .ok (.int (y.num * (x.den : Int))) := mulN hk h2.1 h1.2
  have m3 : AOp.int .mul (x.den : Int) (y.den : Int) = .ok (.int ((x.den : Int) * (y.den : Int))) := mulN hk h1.2 h2.2
  have f := hr (x.num * (y.den : Int) + y.num * (x.den : Int)) _ (dd_ne x y) (dd_lt hk h1 h2)
  rw [← add_divInt] at f
  simp only [bPlus, sv_seq, sv_ret, ev_call, es_cons, es_nil, ev_ar, ev_ix, ev_v, ev_int, getE_0, getE_s, Res.ok_bind, ix_t0, ix_t1, ao_int, m1, m2, m3, ao_add, f, then_rt, outD_rt]
theorem minus_sem {rt k : Nat} (hr : RtOk G rt) {x y : Rat} (hk : k ≤ 4000) (h1 : Bt k x) (h2 : Bt k y) : outD ((bMinus rt).sem G [some (frQ x), some (frQ y)]) = .ok (frQ (x - y)) := by
  have m1 : AOp.int .mul x.num (y.den : Int) = .ok (.int (x.num * (y.den : Int))) := mulN hk h1.1 h2.2
  have m2 : AOp.int .mul y.num (x.den : Int) = .ok (.int (y.num * (x.den : Int))) := mulN hk h2.1 h1.2
  have m3 : AOp.int .mul (x.den : Int) (y.den : Int) = .ok (.int ((x.den : Int) * (y.den : Int))) := mulN hk h1.2 h2.2
  have f := hr (x.num * (y.den : Int) - y.num * (x.den : Int)) _ (dd_ne x y) (dd_lt hk h1 h2)
  rw [← sub_divInt] at f
  simp only [bMinus, sv_seq, sv_ret, ev_call, es_cons, es_nil, ev_ar, ev_ix, ev_v, ev_int, getE_0, getE_s, Res.ok_bind, ix_t0, ix_t1, ao_int, m1, m2, m3, ao_sub, f, then_rt, outD_rt]
theorem times_sem {rt k : Nat} (hr : RtOk G rt) {x y : Rat} (hk : k ≤ 4000) (h1 : Bt k x) (h2 : Bt k y) : outD ((bTimes rt).sem G [some (frQ x), some (frQ y)]) = .ok (frQ (x * y)) := by
  have m1 : AOp.int .mul x.num y.num = .ok (.int (x.num * y.num)) := mulN hk h1.1 h2.1
  have m3 : AOp.int .mul (x.den : Int) (y.den : Int) = .ok (.int ((x.den : Int) * (y.den : Int))) := mulN hk h1.2 h2.2
  have f := hr (x.num * y.num) _ (dd_ne x y) (dd_lt hk h1 h2)
  rw [← mul_divInt] at f
  simp only [bTimes, sv_seq, sv_ret, ev_call, es_cons, es_nil, ev_ar, ev_ix, ev_v, ev_int, getE_0, getE_s, Res.ok_bind, ix_t0, ix_t1, ao_int, m1, m3, f, then_rt, outD_rt]
theorem over_sem {rt k : Nat} (hr : RtOk G rt) {x y : Rat} (hk : k ≤ 4000) (h1 : Bt k x) (h2 : Bt k y) (hy : y ≠ 0) : outD ((bOver rt).sem G [some (frQ x), some (frQ y)]) = .ok (frQ (x / y)) := by
  have m1 : AOp.int .mul x.num (y.den : Int) = .ok (.int (x.num * (y.den : Int))) := mulN hk h1.1 h2.2
  have m3 : AOp.int .mul (x.den : Int) y.num = .ok (.int ((x.den : Int) * y.num)) := mulN hk h1.2 h2.1
  have ny : y.num ≠ 0 := fun z => hy (Rat.num_eq_zero.mp z)
  have nz : (x.den : Int) * y.num ≠ 0 := fun z => (Int.mul_eq_zero.mp z).elim (fun z => x.den_nz (by omega)) ny
  have lt : ((x.den : Int) * y.num).natAbs < 2 ^ 9000 := by
    rw [Int.natAbs_mul, Int.natAbs_natCast]
    exact Nat.lt_of_lt_of_le (mul_lt h1.2 h2.1) (Nat.pow_le_pow_right (by decide) (by omega))
  have f := hr (x.num * (y.den : Int)) _ nz lt
  rw [← div_divInt] at f
  simp only [bOver, sv_seq, sv_ret, ev_call, es_cons, es_nil, ev_ar, ev_ix, ev_v, ev_int, getE_0, getE_s, Res.ok_bind, ix_t0, ix_t1, ao_int, m1, m3, f, then_rt, outD_rt]
theorem over_zero {rt k c : Nat} (hr : ∀ t : Int, G rt [.int t, .int 0] = .exc c []) {x : Rat} (hk : k ≤ 4000) (h1 : Bt k x) : outD ((bOver rt).sem G [some (frQ x), some (frQ 0)]) = .exc c [] := by
  have m1 : AOp.int .mul x.num ((0 : Rat).den : Int) = .ok (.int (x.num * 1)) := ao_mul_r (by decide)
  have m3 : AOp.int .mul (x.den : Int) (0 : Rat).num = .ok (.int 0) := by rw [ao_mul_r (by decide)]; simp
  simp only [bOver, sv_seq, sv_ret, ev_call, es_cons, es_nil, ev_ar, ev_ix, ev_v, ev_int, getE_0, getE_s, Res.ok_bind, ix_t0, ix_t1, ao_int, m1, m3, hr]
  rfl
theorem below_sem {k : Nat} {x y : Rat} (hk : k ≤ 4000) (h1 : Bt k x) (h2 : Bt k y) : outD (bBelow.sem G [some (frQ x), some (frQ y)]) = .ok (.bl (decide (x < y))) := by
  have m1 : AOp.int .mul x.num (y.den : Int) = .ok (.int (x.num * (y.den : Int))) := mulN hk h1.1 h2.2
  have m2 : AOp.int .mul y.num (x.den : Int) = .ok (.int (y.num * (x.den : Int))) := mulN hk h2.1 h1.2
  simp only [bBelow, sv_seq, sv_ret, ev_cmp, ev_ar, ev_ix, ev_v, ev_int, getE_0, getE_s, Res.ok_bind, ix_t0, ix_t1, ao_int, m1, m2, ao_lt, then_rt, outD_rt]
  congr 2
  exact decide_eq_decide.mpr (Rat.lt_iff x y).symm
/-! ### how long they get -/
theorem Bt.of {t b : Int} {k : Nat} (hb : b ≠ 0) (h1 : t.natAbs < 2 ^ k) (h2 : b.natAbs < 2 ^ k) : Bt k (Rat.divInt t b) := by
  obtain ⟨l1, l2⟩ := divInt_le t hb
  exact ⟨by omega, by omega⟩
theorem Bt.add {k : Nat} {x y : Rat} (h1 : Bt k x) (h2 : Bt k y) : Bt (2 * k + 1) (x + y) := by
  rw [add_divInt]
  have e : 2 ^ (2 * k + 1) = 2 ^ (k + k) * 2 := by rw [Nat.pow_succ]; congr 2; omega
  have a1 := mul_lt h1.1 h2.2
  have a2 := mul_lt h2.1 h1.2
  have a3 := mul_lt h1.2 h2.2
  refine Bt.of (dd_ne x y) ?_ ?_
  · have := Int.natAbs_add_le (x.num * (y.den : Int)) (y.num * (x.den : Int))
    rw [Int.natAbs_mul, Int.natAbs_mul, Int.natAbs_natCast, Int.natAbs_natCast] at this
    omega
  · rw [Int.natAbs_mul, Int.natAbs_natCast, Int.natAbs_natCast]; omega
theorem Bt.neg {k : Nat} {x : Rat} (h : Bt k x) : Bt k (-x) := by
  refine ⟨?_, ?_⟩
  · rw [Rat.neg_num, Int.natAbs_neg]; exact h.1
  · rw [Rat.neg_den]; exact h.2
theorem Bt.sub {k : Nat} {x y : Rat} (h1 : Bt k x) (h2 : Bt k y) : Bt (2 * k + 1) (x - y) := by
  rw [Rat.sub_eq_add_neg]
  exact h1.add h2.neg
theorem Bt.mul {k m : Nat} {x y : Rat} (h1 : Bt k x) (h2 : Bt m y) : Bt (k + m) (x * y) := by
  rw [mul_divInt]
  refine Bt.of (dd_ne x y) ?_ ?_
  · rw [Int.natAbs_mul]; exact mul_lt h1.1 h2.1
  · rw [Int.natAbs_mul, Int.natAbs_natCast, Int.natAbs_natCast]; exact mul_lt h1.2 h2.2
theorem Bt.div {k m : Nat} {x y : Rat} (h1 : Bt k x) (h2 : Bt m y) (hy : y ≠ 0) : Bt (k + m) (x / y) := by
  rw [div_divInt]
  have ny : y.num ≠ 0 := fun z => hy (Rat.num_eq_zero.mp z)
  have nz : (x.den : Int) * y.num ≠ 0 := fun z => (Int.mul_eq_zero.mp z).elim (fun z => x.den_nz (by omega)) ny
  refine Bt.of nz ?_ ?_
  · rw [Int.natAbs_mul, Int.natAbs_natCast]; exact mul_lt h1.1 h2.2
  · rw [Int.natAbs_mul, Int.natAbs_natCast]; exact mul_lt h1.2 h2.1
theorem Bt.zero : Bt 1 0 := ⟨by decide, by decide⟩
theorem Bt.one : Bt 1 1 := ⟨by decide, by decide⟩
/-! ### the laws' own -/
abbrev bWhole : S := .seq (.ret (.and (.isI .int (.v 0)) (.not (.isI .bool (.v 0))))) .skip
theorem whole_sem (i : Int) : outD (bWhole.sem G [some (.int i)]) = .ok (.bl true) := rfl
abbrev bCell : S :=
  .seq (.iff (.cmp .lt (.v 1) (.len (.v 0)))
    (.seq (.ret (.pur (.ix (.v 0) (.v 1)))) .skip)
    (.skip)) (
  .seq (.ret (.int 0)) .skip)
/-- the k-th number of the script -/
def cellN (ns : List Int) (k : Nat) : Int := ns.getD k 0
theorem cell_sem (ns : List Int) (k : Nat) : outD (bCell.sem G [some (.scr ns), some (.int k)]) = .ok (.int (cellN ns k)) := by
  unfold cellN
  by_cases h : k < ns.length
  · simp [bCell, h, ix_s (n := k) rfl (List.getElem?_eq_getElem h)]
  · simp [bCell, h]
abbrev bLow (dv : Nat) : S :=
  .seq (.asg 2 (.call dv (.cons (.v 0) (.cons (.v 1) .nil)))) (
  .seq (.ret (.tup (.cons (.ar .fdiv (.v 0) (.v 2)) (.cons (.ar .fdiv (.v 1) (.v 2)) .nil)))) .skip)
theorem low_sem (dv : Nat) (hd : ∀ a b : Int, G dv [.int a, .int b] = .ok (.int (Int.gcd a b))) {t b : Int} (hb : 0 < b) (hs : b.natAbs < 2 ^ 9000) : outD ((bLow dv).sem G [some (.int t), some (.int b), none]) = .ok (frQ (Rat.divInt t b)) := by
  obtain ⟨g, g0, ge, e1, e2⟩ := divInt_of t (show b ≠ 0 by omega)
  rw [if_neg (by omega)] at ge
  have lg : g.natAbs.log2 < 9000 := by
    have : g.natAbs < 2 ^ 9000 := by
      have := gcd_le (t := t) (show b ≠ 0 by omega)
      omega
    exact (Nat.log2_lt (by omega)).mpr this
  have q1 : AOp.int .fdiv t g = .ok (.int (Rat.divInt t b).num) := ao_fdivx g0 lg e1
  have q2 : AOp.int .fdiv b g = .ok (.int ((Rat.divInt t b).den : Int)) := ao_fdivx g0 lg e2
  rw [ge] at q1 q2
  simp only [bLow, sv_seq, sv_asg, sv_ret, ev_call, es_cons, es_nil, ev_tup, ev_ar, ev_v, ev_int, getE_0, getE_s, Res.ok_bind, hd, then_nx, List.set_cons_zero, List.set_cons_succ, ao_int, q1, q2]
  rfl
abbrev bWorth (wh dv : Nat) : S :=
  .seq (.iff (.or (.not (.isI .tuple (.v 0))) (.or (.ne (.len (.v 0)) (.int 2)) (.or (.not (.call wh (.cons (.ix (.v 0) (.int 0)) .nil))) (.not (.call wh (.cons (.ix (.v 0) (.int 1)) .nil))))))
    (.seq (.ret (.bl false)) .skip)
    (.skip)) (
  .seq (.ret (.and (.cmp .gt (.ix (.v 0) (.int 1)) (.int 0)) (.and (.eq (.ar .mul (.ix (.v 0) (.int 0)) (.v 2)) (.ar .mul (.v 1) (.ix (.v 0) (.int 1)))) (.eq (.call dv (.cons (.ix (.v 0) (.int 0)) (.cons (.ix (.v 0) (.int 1)) .nil))) (.int 1))))) .skip)
theorem worth_sem {wh dv k : Nat} (hw : ∀ i : Int, G wh [.int i] = .ok (.bl true)) (hd : ∀ a b : Int, G dv [.int a, .int b] = .ok (.int (Int.gcd a b))) {t b : Int} (hb : b ≠ 0) (hk : k ≤ 4000) (h1 : t.natAbs < 2 ^ k) (h2 : b.natAbs < 2 ^ k) :
    outD ((bWorth wh dv).sem G [some (frQ (Rat.divInt t b)), some (.int t), some (.int b)]) = .ok (.bl true) := by
  obtain ⟨g, g0, ge, e1, e2⟩ := divInt_of t hb
  have bt := Bt.of hb h1 h2
  generalize hr : Rat.divInt t b = r at *
  have m1 : AOp.int .mul r.num b = .ok (.int (r.num * b)) := mulN hk bt.1 h2
  have m2 : AOp.int .mul t (r.den : Int) = .ok (.int (r.num * b)) := by
    rw [mulN (j := (r.den : Int)) hk h1 bt.2]
    have : t * (r.den : Int) = r.num * b := by
      conv => lhs; rw [e1]
      conv => rhs; rw [e2]
      grind
    rw [this]
  have p : (0 : Int) < (r.den : Int) := Int.natCast_pos.mpr r.den_pos
  have gg : (Int.gcd r.num (r.den : Int) : Int) = 1 := by
    have := r.reduced
    show ((Nat.gcd r.num.natAbs ((r.den : Int)).natAbs : Nat) : Int) = 1
    rw [Int.natAbs_natCast]
    have e : Nat.gcd r.num.natAbs r.den = 1 := this
    rw [e]; rfl
  have l : E.sem G (.and (.cmp .gt (.ix (.v 0) (.int 1)) (.int 0)) (.and (.eq (.ar .mul (.ix (.v 0) (.int 0)) (.v 2)) (.ar .mul (.v 1) (.ix (.v 0) (.int 1)))) (.eq (.call dv (.cons (.ix (.v 0) (.int 0)) (.cons (.ix (.v 0) (.int 1)) .nil))) (.int 1)))) [some (frQ r), some (.int t), some (.int b)] = .ok (.bl true) := by
    have c1 : E.sem G (.cmp .gt (.ix (.v 0) (.int 1)) (.int 0)) [some (frQ r), some (.int t), some (.int b)] = .ok (.bl true) := by
      simp only [ev_cmp, ev_ix, ev_v, ev_int, getE_0, getE_s, Res.ok_bind, ix_t1, ao_gt]
      rw [decide_eq_true p]
    have c2 : E.sem G (.eq (.ar .mul (.ix (.v 0) (.int 0)) (.v 2)) (.ar .mul (.v 1) (.ix (.v 0) (.int 1)))) [some (frQ r), some (.int t), some (.int b)] = .ok (.bl true) := by
      simp only [ev_eq, ev_ar, ev_ix, ev_v, ev_int, getE_0, getE_s, Res.ok_bind, ix_t0, ix_t1, ao_int, m1, m2, ao_eqi]
      rfl
    have c3 : E.sem G (.eq (.call dv (.cons (.ix (.v 0) (.int 0)) (.cons (.ix (.v 0) (.int 1)) .nil))) (.int 1)) [some (frQ r), some (.int t), some (.int b)] = .ok (.bl true) := by
      simp only [ev_eq, ev_call, es_cons, es_nil, ev_ix, ev_v, ev_int, getE_0, getE_s, Res.ok_bind, ix_t0, ix_t1, hd, gg, ao_eqi]
      rfl
    rw [ev_and, c1, ev_and, c2, c3]
    rfl
  refine (congrArg outD (iff_to ?_)).trans ?_
  · simp only [ev_or, ev_not, ev_isI, isI_tt, ev_ne, ev_len, ao_lenT, ev_call, es_cons, es_nil, ev_ix, ev_v, ev_int, getE_0, getE_s, Res.ok_bind, ix_t0, ix_t1, hw, ao_not, ao_eqi, List.length_cons, List.length_nil]
    rfl
  · rw [sv_seq, sv_ret, l]
    rfl
end
end Tr

/-! Plain rows for tables: plays and their order. -/
namespace Tr
open PySem PySem.Spec PyProof.Rows L2
/-! ### plays -/
def prodN : List Nat → Nat
  | [] => 1
  | s :: r => s * prodN r
/-- the n-th play -/
def dig : List Nat → Nat → List Int
  | [], _ => []
  | s :: r, n => ((n / prodN r % s : Nat) : Int) :: dig r n
/-- all plays, the last hand's choice first to go on -/
def ordN (szs : List Nat) : List (List Int) := (List.range (prodN szs)).map (dig szs)
def okP : List Nat → List Int → Prop
  | [], k => k = []
  | s :: r, k => ∃ c k', k = c :: k' ∧ 0 ≤ c ∧ c < s ∧ okP r k'
def valP : List Nat → List Int → Nat
  | s :: r, c :: k => c.toNat * prodN r + valP r k
  | _, _ => 0
theorem dig_mod : ∀ (szs : List Nat) (n : Nat), dig szs (n % prodN szs) = dig szs n
  | [], _ => rfl
  | s :: r, n => by
    show ((n % (s * prodN r) / prodN r % s : Nat) : Int) :: dig r (n % (s * prodN r)) = ((n / prodN r % s : Nat) : Int) :: dig r n
    rw [← dig_mod r (n % (s * prodN r)), ← dig_mod r n, Nat.mod_mul_left_mod, Nat.mul_comm s, Nat.mod_mul_right_div_self, Nat.mod_mod]
theorem prodN_pos : ∀ {szs : List Nat}, (∀ s ∈ szs, 0 < s) → 0 < prodN szs
  | [], _ => Nat.one_pos
  | s :: r, h => Nat.mul_pos (h s List.mem_cons_self) (prodN_pos fun t ht => h t (List.mem_cons_of_mem _ ht))
theorem dig_len : ∀ (szs : List Nat) (n : Nat), (dig szs n).length = szs.length
  | [], _ => rfl
  | s :: r, n => by show (dig r n).length + 1 = r.length + 1; rw [dig_len r n]
theorem valP_dig : ∀ (szs : List Nat) (n : Nat), valP szs (dig szs n) = n % prodN szs
  | [], n => by show 0 = n % 1; omega
  | s :: r, n => by
    show (((n / prodN r % s : Nat) : Int)).toNat * prodN r + valP r (dig r n) = n % (s * prodN r)
    rw [valP_dig r n, Int.toNat_natCast, Nat.mul_comm s, Nat.mod_mul, Nat.mul_comm, Nat.add_comm]
theorem okP_dig : ∀ {szs : List Nat} (n : Nat), (∀ s ∈ szs, 0 < s) → okP szs (dig szs n)
  | [], _, _ => rfl
  | s :: r, n, h => by
    have := Nat.mod_lt (n / prodN r) (h s List.mem_cons_self)
    exact ⟨_, _, rfl, by omega, by omega, okP_dig n fun t ht => h t (List.mem_cons_of_mem _ ht)⟩
theorem valP_lt : ∀ {szs : List Nat} {k : List Int}, okP szs k → valP szs k < prodN szs
  | [], k, h => by cases (show k = [] from h); exact Nat.one_pos
  | s :: r, k, h => by
    obtain ⟨c, k', rfl, h0, h1, h2⟩ := h
    have := valP_lt h2
    show c.toNat * prodN r + valP r k' < s * prodN r
    have e : (c.toNat + 1) * prodN r ≤ s * prodN r := Nat.mul_le_mul_right _ (by omega)
    rw [Nat.succ_mul] at e
    omega
theorem dig_valP : ∀ {szs : List Nat} {k : List Int}, okP szs k → dig szs (valP szs k) = k
  | [], k, h => by cases (show k = [] from h); rfl
  | s :: r, k, h => by
    obtain ⟨c, k', rfl, h0, h1, h2⟩ := h
    have hv := valP_lt h2
    have hp : 0 < prodN r := by omega
    show (((c.toNat * prodN r + valP r k') / prodN r % s : Nat) : Int) :: dig r (c.toNat * prodN r + valP r k') = c :: k'
    rw [← dig_mod r, Nat.mul_comm, Nat.mul_add_mod, dig_mod, dig_valP h2, Nat.mul_add_div hp, Nat.div_eq_of_lt hv, Nat.add_zero, Nat.mod_eq_of_lt (by omega)]
    congr 1
    omega
theorem mem_ord {szs : List Nat} {k : List Int} (hp : ∀ s ∈ szs, 0 < s) : k ∈ ordN szs ↔ okP szs k := by
  unfold ordN
  rw [List.mem_map]
  constructor
  · rintro ⟨n, _, rfl⟩
    exact okP_dig n hp
  · exact fun h => ⟨valP szs k, List.mem_range.mpr (valP_lt h), dig_valP h⟩
theorem ord_nodup (szs : List Nat) : (ordN szs).Nodup := by
  unfold ordN List.Nodup
  rw [List.pairwise_map]
  refine List.Pairwise.imp_of_mem ?_ (List.pairwise_lt_range (n := prodN szs))
  intro a b ha hb hlt e
  have := congrArg (valP szs) e
  rw [valP_dig, valP_dig, Nat.mod_eq_of_lt (List.mem_range.mp ha), Nat.mod_eq_of_lt (List.mem_range.mp hb)] at this
  omega
theorem ord_len (szs : List Nat) : (ordN szs).length = prodN szs := by unfold ordN; simp
theorem ord_get {szs : List Nat} {n : Nat} (h : n < prodN szs) : (ordN szs)[n]? = some (dig szs n) := by
  unfold ordN
  rw [List.getElem?_map, List.getElem?_range h]; rfl
/-! ### as the program tells them -/
def ext (found : List (List Int)) (s : Nat) : List (List Int) := found.flatMap fun st => (List.range s).map fun c => st ++ [((c : Nat) : Int)]
theorem range_mul {α : Type} (f : Nat → α) (s : Nat) : ∀ m : Nat, (List.range (m * s)).map f = (List.range m).flatMap fun q => (List.range s).map fun c => f (q * s + c)
  | 0 => by simp
  | m + 1 => by
    rw [Nat.succ_mul, List.range_add, List.map_append, range_mul f s m, List.range_succ, List.flatMap_append, List.map_map]
    simp [Function.comp_def]
theorem prodN_snoc (s : Nat) : ∀ p : List Nat, prodN (p ++ [s]) = prodN p * s
  | [] => by show s * 1 = 1 * s; omega
  | a :: p => by show a * prodN (p ++ [s]) = a * prodN p * s; rw [prodN_snoc s p, Nat.mul_assoc]
theorem dig_snoc (s n : Nat) : ∀ p : List Nat, dig (p ++ [s]) n = dig p (n / s) ++ [((n % s : Nat) : Int)]
  | [] => by show ((n / 1 % s : Nat) : Int) :: [] = _; rw [Nat.div_one]; rfl
  | a :: p => by
    show ((n / prodN (p ++ [s]) % a : Nat) : Int) :: dig (p ++ [s]) n = ((n / s / prodN p % a : Nat) : Int) :: (dig p (n / s) ++ [((n % s : Nat) : Int)])
    rw [dig_snoc s n p, prodN_snoc, Nat.div_div_eq_div_mul, Nat.mul_comm (prodN p)]
theorem ord_snoc (p : List Nat) (s : Nat) : ordN (p ++ [s]) = ext (ordN p) s := by
  unfold ordN ext
  rw [prodN_snoc, range_mul, List.flatMap_map]
  congr 1
  funext q
  refine List.map_congr_left fun c hc => ?_
  have hc := List.mem_range.mp hc
  rw [dig_snoc]
  have e1 : (q * s + c) / s = q := by rw [Nat.mul_comm, Nat.mul_add_div (by omega), Nat.div_eq_of_lt hc]; rfl
  have e2 : (q * s + c) % s = c := by rw [Nat.mul_comm, Nat.mul_add_mod, Nat.mod_eq_of_lt hc]
  rw [e1, e2]
theorem fold_ext : ∀ (r p : List Nat), r.foldl ext (ordN p) = ordN (p ++ r)
  | [], p => by rw [List.append_nil]; rfl
  | s :: r, p => by rw [List.foldl_cons, ← ord_snoc, fold_ext r (p ++ [s]), List.append_assoc]; rfl
theorem plays_eq (szs : List Nat) : szs.foldl ext [[]] = ordN szs := fold_ext szs []
/-- the loop of the laws' plays -/
theorem fold_dig : ∀ (szs : List Nat) (n : Nat), szs.reverse.foldl (fun (st : List Int × Nat) s => (((st.2 % s : Nat) : Int) :: st.1, st.2 / s)) ([], n) = (dig szs n, n / prodN szs)
  | [], n => by show (([] : List Int), n) = ([], n / 1); rw [Nat.div_one]
  | s :: r, n => by
    rw [List.reverse_cons, List.foldl_append, fold_dig r n]
    show (((n / prodN r % s : Nat) : Int) :: dig r n, n / prodN r / s) = _
    rw [Nat.div_div_eq_div_mul, Nat.mul_comm (prodN r)]; rfl
/-- a play as a value -/
abbrev plD (k : List Int) : D := .tup (k.map D.int)
abbrev szD (szs : List Nat) : D := .lst (szs.map fun s => D.int (s : Nat))
def SzOk (szs : List Nat) : Prop := (∀ s ∈ szs, 0 < s ∧ s ≤ 100) ∧ prodN szs ≤ 100000
theorem SzOk.pos {szs : List Nat} (h : SzOk szs) : ∀ s ∈ szs, 0 < s := fun s hs => (h.1 s hs).1
end Tr

/-! Plain rows for tables: what the pieces of the text come to. -/
namespace Tr
open PySem PySem.Spec PyProof.Rows L2
section
variable {G : Gam} {env : Env}
theorem catT_ok {xs ys : List D} (h : xs.length + ys.length ≤ line) : catTD (.tup xs) (.tup ys) = .ok (.tup (xs ++ ys)) := by
  show (if _ then _ else _) = _
  rw [if_pos h]
theorem pl_pure (k : List Int) : D.pureL (k.map D.int) = true := pureL_ints k
/-! ### the laws' plays -/
abbrev bPlayL : S :=
  .seq (.asg 2 (.tup (.nil))) (
  .seq (.for_ [3] (.rev (.v 0))
    (.seq (.asg 2 (.catT (.tup (.cons (.ar .mod (.v 1) (.v 3)) .nil)) (.v 2))) (
    .seq (.asg 1 (.ar .fdiv (.v 1) (.v 3))) .skip))) (
  .seq (.ret (.v 2)) .skip))
theorem playL_sem {szs : List Nat} (hs : ∀ s ∈ szs, 0 < s ∧ s ≤ 100) (hl : szs.length ≤ 1000) (n : Nat) : outD (bPlayL.sem G [some (szD szs), some (.int (n : Int)), none, none]) = .ok (plD (dig szs n)) := by
  have key : ∀ (l : List Nat) (st : List Int × Nat) (o : Option D), (∀ s ∈ l, 0 < s ∧ s ≤ 100) → l.length + st.1.length ≤ 1000 → ∃ o', forS G [3] (.seq (.asg 2 (.catT (.tup (.cons (.ar .mod (.v 1) (.v 3)) .nil)) (.v 2))) (.seq (.asg 1 (.ar .fdiv (.v 1) (.v 3))) .skip)) (l.map fun s => D.int (s : Nat))
      [some (szD szs), some (.int (st.2 : Nat)), some (plD st.1), o] = .ok (.nx [some (szD szs), some (.int ((l.foldl (fun (st : List Int × Nat) s => (((st.2 % s : Nat) : Int) :: st.1, st.2 / s)) st).2 : Nat)), some (plD (l.foldl (fun (st : List Int × Nat) s => (((st.2 % s : Nat) : Int) :: st.1, st.2 / s)) st).1), o']) := by
    intro l
    induction l with
    | nil => exact fun st o _ _ => ⟨o, rfl⟩
    | cons s l ih =>
      intro st o h hl
      obtain ⟨h1, h2⟩ := h s List.mem_cons_self
      rw [List.length_cons] at hl
      obtain ⟨o', e⟩ := ih (((st.2 % s : Nat) : Int) :: st.1, st.2 / s) (some (.int (s : Nat))) (fun t ht => h t (List.mem_cons_of_mem _ ht)) (by show l.length + (st.1.length + 1) ≤ 1000; omega)
      refine ⟨o', ?_⟩
      rw [List.map_cons, forS_one]
      have m1 : AOp.int .mod (st.2 : Int) (s : Int) = .ok (.int ((st.2 % s : Nat) : Int)) := by rw [ao_mod (by omega)]; rfl
      have m2 : AOp.int .fdiv (st.2 : Int) (s : Int) = .ok (.int ((st.2 / s : Nat) : Int)) := by
        rw [ao_fdiv (by omega) (log_9 (k := 6) (by omega) (by decide))]; rfl
      have c1 : catTD (.tup [.int ((st.2 % s : Nat) : Int)]) (plD st.1) = .ok (plD (((st.2 % s : Nat) : Int) :: st.1)) := catT_ok (by rw [List.length_map]; show 1 + st.1.length ≤ 1000000; omega)
      have l1 : [D.int ((st.2 % s : Nat) : Int)].length ≤ line := by show 1 ≤ 1000000; decide
      simp only [List.set_cons_zero, List.set_cons_succ, sv_seq, sv_asg, sv_skip, ev_catT, ev_tup, es_cons, es_nil, ev_ar, ev_v, getE_0, getE_s, Res.ok_bind, ao_int, m1, m2, l1, if_true, c1, then_nx]
      rw [e]; rfl
  obtain ⟨o', e⟩ := key szs.reverse ([], n) none (fun s h => hs s (List.mem_reverse.mp h)) (by simpa using hl)
  rw [fold_dig] at e
  have r : It.sem G (.rev (.v 0)) [some (szD szs), some (.int (n : Int)), some (plD []), none] = .ok (szs.reverse.map fun s => D.int (s : Nat)) := by
    simp [List.map_reverse]
  have t0 : E.sem G (.tup .nil) [some (szD szs), some (.int (n : Int)), none, none] = .ok (plD []) := by
    rw [ev_tup, es_nil, Res.ok_bind, if_pos (show ([] : List D).length ≤ line from Nat.zero_le _)]; rfl
  refine (congrArg outD (asg_to (env' := [some (szD szs), some (.int (n : Int)), some (plD []), none]) t0 rfl)).trans ?_
  rw [sv_seq, sv_for, r, Res.ok_bind, e]
  rfl
abbrev bOrderL (pl : Nat) : S :=
  .seq (.asg 1 (.int 1)) (
  .seq (.for_ [2] (.lst (.v 0))
    (.seq (.asg 1 (.ar .mul (.v 1) (.v 2))) .skip)) (
  .seq (.ret (.comp [3] (.rng (.v 1)) (.call pl (.cons (.v 0) (.cons (.v 3) .nil))))) .skip))
def PlOk (G : Gam) (pl : Nat) (szs : List Nat) : Prop := ∀ n : Nat, G pl [szD szs, .int (n : Int)] = .ok (plD (dig szs n))
theorem foldl_prod : ∀ (l : List Nat) (m : Nat), l.foldl (fun m s => m * s) m = m * prodN l
  | [], m => by show m = m * 1; omega
  | s :: l, m => by show l.foldl (fun m s => m * s) (m * s) = m * (s * prodN l); rw [foldl_prod l, Nat.mul_assoc]
theorem orderL_sem {pl : Nat} {szs : List Nat} (hp : PlOk G pl szs) (hs : SzOk szs) : outD ((bOrderL pl).sem G [some (szD szs), none, none, none]) = .ok (.lst ((ordN szs).map plD)) := by
  obtain ⟨env, he, ⟨o2, rfl⟩⟩ := forS_rel (G := G) (i := 2) (b := (.seq (.asg 1 (.ar .mul (.v 1) (.v 2))) .skip)) (c := fun s : Nat => D.int (s : Nat)) (xs := szs) (g := fun (m : Nat) s => m * s) (P := fun m env => ∃ o2, env = [some (szD szs), some (.int ((m : Nat) : Int)), o2, none]) (s := 1)
    (env := [some (szD szs), some (.int 1), none, none]) (by
      rintro m env s hm ⟨o2, rfl⟩
      have m1 : AOp.int .mul (m : Int) (s : Int) = .ok (.int ((m * s : Nat) : Int)) := by rw [ao_mul_r (by have := (hs.1 s hm).2; omega)]; rfl
      exact ⟨_, by simp only [List.set_cons_zero, List.set_cons_succ, sv_seq, sv_asg, sv_skip, ev_ar, ev_v, getE_0, getE_s, Res.ok_bind, ao_int, m1, then_nx]; rfl, _, rfl⟩) ⟨none, rfl⟩
  rw [foldl_prod, Nat.one_mul] at he
  have r1 : It.sem G (.lst (.v 0)) [some (szD szs), some (.int 1), none, none] = .ok (szs.map fun s => D.int (s : Nat)) := rfl
  refine (congrArg outD (asg_to (env' := [some (szD szs), some (.int 1), none, none]) (d := .int 1) rfl rfl)).trans ?_
  rw [sv_seq, sv_for, r1, Res.ok_bind, he, then_nx]
  have r2 : It.sem G (.rng (.v 1)) [some (szD szs), some (.int ((prodN szs : Nat) : Int)), o2, none] = .ok ((List.range (prodN szs)).map fun i => D.int (i : Nat)) := et_rngN rfl (by have := hs.2; omega)
  have r3 := compE_one (G := G) (i := 3) (e := .call pl (.cons (.v 0) (.cons (.v 3) .nil))) (env := [some (szD szs), some (.int ((prodN szs : Nat) : Int)), o2, none]) (c := fun i : Nat => D.int (i : Nat)) (r := fun n => plD (dig szs n)) (xs := List.range (prodN szs)) (fun n _ => call_ev (ds := [szD szs, .int (n : Nat)]) rfl (hp n))
  rw [sv_seq, sv_ret, ev_comp, r2, Res.ok_bind, r3, Res.ok_bind, if_pos (by rw [List.length_map, List.length_range]; have := hs.2; show prodN szs ≤ 1000000; omega), Res.ok_bind]
  unfold ordN
  rw [List.map_map]
  rfl
/-! ### the program's plays -/
abbrev bPlays : S :=
  .seq (.asg 1 (.lst (.cons (.tup (.nil)) .nil))) (
  .dem 1 2 (.seq (.for_ [2] (.lst (.v 0))
    (.seq (.asg 3 (.lst (.nil))) (
    .dem 3 3 (.seq (.for_ [4] (.lst (.v 1))
      (.seq (.for_ [5] (.rng (.v 2))
        (.seq (.app 3 (.nil) (.catT (.pin (.v 4)) (.tup (.cons (.v 5) .nil)))) .skip)) .skip)) (
    .dem 3 2 (.seq (.asg 1 (.v 3)) .skip)))))) (
  .seq (.ret (.v 1)) .skip)))
theorem ext_len (f : List (List Int)) (s : Nat) : (ext f s).length = f.length * s := by
  unfold ext
  induction f with
  | nil => simp
  | cons a f ih =>
    rw [List.flatMap_cons, List.length_append, ih, List.length_map, List.length_range, List.length_cons, Nat.succ_mul]
    omega
theorem plays_sem {szs : List Nat} (hs : SzOk szs) (hl : szs.length ≤ 100) : outD (bPlays.sem G [some (szD szs), none, none, none, none, none]) = .ok (.lst ((ordN szs).map plD)) := by
  have inner : ∀ (s : Nat) (st : List Int) (acc : List (List Int)) (o1 o5 : Option D) (o0 : Option D), st.length ≤ 100 → acc.length + s ≤ 100000 → s ≤ 100 → ∃ o5', S.sem G (.for_ [5] (.rng (.v 2)) (.seq (.app 3 (.nil) (.catT (.pin (.v 4)) (.tup (.cons (.v 5) .nil)))) .skip)) [o0, o1, some (.int (s : Nat)), some (.lst (acc.map plD)), some (plD st), o5] =
      .ok (.nx [o0, o1, some (.int (s : Nat)), some (.lst ((acc ++ (List.range s).map fun c => st ++ [((c : Nat) : Int)]).map plD)), some (plD st), o5']) := by
    intro s st acc o1 o5 o0 hst hacc h100
    have r : It.sem G (.rng (.v 2)) [o0, o1, some (.int (s : Nat)), some (.lst (acc.map plD)), some (plD st), o5] = .ok ((List.range s).map fun i => D.int (i : Nat)) := et_rngN rfl (by omega)
    obtain ⟨env, he, o5', e⟩ := forS_app (G := G) (i := 5) (b := (.seq (.app 3 (.nil) (.catT (.pin (.v 4)) (.tup (.cons (.v 5) .nil)))) .skip)) (c := fun i : Nat => D.int (i : Nat)) (v := fun c : Nat => st ++ [((c : Nat) : Int)]) (m := acc.length + s)
      (P := fun a env => ∃ o5, env = [o0, o1, some (.int (s : Nat)), some (.lst (a.map plD)), some (plD st), o5]) (xs := List.range s) (acc := acc) (env := [o0, o1, some (.int (s : Nat)), some (.lst (acc.map plD)), some (plD st), o5]) (by
        rintro a env c _ ha ⟨o5, rfl⟩
        have p1 : pinD (plD st) = .ok (plD st) := by show (if _ then _ else _) = _; rw [if_pos (pl_pure st)]
        have c1 : catTD (plD st) (.tup [.int (c : Nat)]) = .ok (plD (st ++ [((c : Nat) : Int)])) := by
          rw [catT_ok (by rw [List.length_map]; show st.length + 1 ≤ 1000000; omega)]
          simp
        have l1 : [D.int (c : Nat)].length ≤ line := by show 1 ≤ 1000000; decide
        have a1 : appD (plD (st ++ [((c : Nat) : Int)])) (.lst (a.map plD)) = .ok (.lst ((a ++ [st ++ [((c : Nat) : Int)]]).map plD)) := by
          rw [app_ok (by rw [List.length_map]; show a.length < 1000000; omega), List.map_append]; rfl
        refine ⟨_, ?_, some (.int (c : Nat)), rfl⟩
        have e1 : E.sem G (.catT (.pin (.v 4)) (.tup (.cons (.v 5) .nil))) [o0, o1, some (.int (s : Nat)), some (.lst (a.map plD)), some (plD st), some (.int (c : Nat))] = .ok (plD (st ++ [((c : Nat) : Int)])) := by
          simp only [ev_catT, ev_pin, ev_tup, es_cons, es_nil, ev_v, getE_0, getE_s, Res.ok_bind, p1, l1, if_true, c1]
        have g1 : chg 3 [] (appD (plD (st ++ [((c : Nat) : Int)]))) [o0, o1, some (.int (s : Nat)), some (.lst (a.map plD)), some (plD st), some (.int (c : Nat))] = .ok [o0, o1, some (.int (s : Nat)), some (.lst ((a ++ [st ++ [((c : Nat) : Int)]]).map plD)), some (plD st), some (.int (c : Nat))] := by
          rw [chg_top (d := .lst (a.map plD)) rfl, a1]; rfl
        show Out.andThen (S.sem G (.app 3 .nil (.catT (.pin (.v 4)) (.tup (.cons (.v 5) .nil)))) [o0, o1, some (.int (s : Nat)), some (.lst (a.map plD)), some (plD st), some (.int (c : Nat))]) (S.sem G .skip) = _
        rw [sv_app, e1]
        show Out.andThen ((chg 3 [] (appD (plD (st ++ [((c : Nat) : Int)]))) _).bind fun env' => .ok (.nx env')) _ = _
        rw [g1]; rfl) (by simp) ⟨o5, rfl⟩
    exact ⟨o5', by rw [sv_for, r, Res.ok_bind, he, e]⟩
  have mid : ∀ (s : Nat) (f : List (List Int)) (acc : List (List Int)) (o1 o4 o5 o0 : Option D), (∀ st ∈ f, st.length ≤ 100) → acc.length + f.length * s ≤ 100000 → s ≤ 100 → ∃ o4' o5', forS G [4] (.seq (.for_ [5] (.rng (.v 2)) (.seq (.app 3 (.nil) (.catT (.pin (.v 4)) (.tup (.cons (.v 5) .nil)))) .skip)) .skip) (f.map plD) [o0, o1, some (.int (s : Nat)), some (.lst (acc.map plD)), o4, o5] =
      .ok (.nx [o0, o1, some (.int (s : Nat)), some (.lst ((acc ++ ext f s).map plD)), o4', o5']) := by
    intro s f
    induction f with
    | nil => exact fun acc o1 o4 o5 o0 _ _ _ => ⟨o4, o5, by show Res.ok _ = _; rw [show ext [] s = [] from rfl, List.append_nil]⟩
    | cons st f ih =>
      intro acc o1 o4 o5 o0 hf hlen h100
      rw [List.length_cons, Nat.succ_mul] at hlen
      obtain ⟨o5', e1⟩ := inner s st acc o1 o5 o0 (hf st List.mem_cons_self) (by omega) h100
      obtain ⟨o4'', o5'', e2⟩ := ih (acc ++ (List.range s).map fun c => st ++ [((c : Nat) : Int)]) o1 (some (plD st)) o5' o0 (fun t ht => hf t (List.mem_cons_of_mem _ ht)) (by rw [List.length_append, List.length_map, List.length_range]; omega) h100
      refine ⟨o4'', o5'', ?_⟩
      rw [List.map_cons, forS_one, sv_seq]
      show Out.andThen (Out.andThen (S.sem G (.for_ [5] (.rng (.v 2)) _) [o0, o1, some (.int (s : Nat)), some (.lst (acc.map plD)), some (plD st), o5]) _) _ = _
      rw [e1, then_nx]
      show forS G [4] _ (f.map plD) _ = _
      rw [e2]
      unfold ext
      rw [List.flatMap_cons, List.append_assoc]
  have outer : ∀ (l : List Nat) (p : List Nat) (o2 o3 o4 o5 : Option D), p ++ l = szs → ∃ o2' o3' o4' o5', forS G [2] (.seq (.asg 3 (.lst (.nil))) (.dem 3 3 (.seq (.for_ [4] (.lst (.v 1)) (.seq (.for_ [5] (.rng (.v 2)) (.seq (.app 3 (.nil) (.catT (.pin (.v 4)) (.tup (.cons (.v 5) .nil)))) .skip)) .skip)) (.dem 3 2 (.seq (.asg 1 (.v 3)) .skip))))) (l.map fun s => D.int (s : Nat))
      [some (szD szs), some (.lst ((ordN p).map plD)), o2, o3, o4, o5] = .ok (.nx [some (szD szs), some (.lst ((ordN szs).map plD)), o2', o3', o4', o5']) := by
    intro l
    induction l with
    | nil => exact fun p o2 o3 o4 o5 e => ⟨o2, o3, o4, o5, by rw [← e, List.append_nil]; rfl⟩
    | cons s l ih =>
      intro p o2 o3 o4 o5 e
      have hsm : s ∈ szs := by rw [← e]; simp
      have hpos : 0 < prodN l := prodN_pos fun t ht => hs.pos t (by rw [← e]; simp [ht])
      have happ : ∀ (a b : List Nat), prodN (a ++ b) = prodN a * prodN b := fun a b => by
        induction a with
        | nil => show prodN b = 1 * prodN b; omega
        | cons x a iha => show x * prodN (a ++ b) = x * prodN a * prodN b; rw [iha, Nat.mul_assoc]
      have hle : prodN p * s ≤ 100000 := by
        have h1 : prodN szs = prodN p * (s * prodN l) := by rw [← e, happ]; rfl
        have h2 : prodN p * s * 1 ≤ prodN p * s * prodN l := Nat.mul_le_mul_left _ hpos
        have := hs.2
        rw [h1, ← Nat.mul_assoc] at this
        omega
      obtain ⟨o4', o5', e1⟩ := mid s (ordN p) [] (some (.lst ((ordN p).map plD))) o4 o5 (some (szD szs)) (fun st hst => by
        obtain ⟨n, _, rfl⟩ := List.mem_map.mp hst
        rw [dig_len]
        have : p.length ≤ szs.length := by rw [← e]; simp
        omega) (by rw [ord_len]; simpa using hle) (hs.1 s hsm).2
      obtain ⟨q2, q3, q4, q5, e2⟩ := ih (p ++ [s]) (some (.int (s : Nat))) (some (.lst ((ordN (p ++ [s])).map plD))) o4' o5' (by rw [List.append_assoc]; exact e)
      refine ⟨q2, q3, q4, q5, ?_⟩
      rw [List.map_cons, forS_one]
      have l0 : E.sem G (.lst .nil) [some (szD szs), some (.lst ((ordN p).map plD)), some (.int (s : Nat)), o3, o4, o5] = .ok (.lst (([] : List (List Int)).map plD)) := by
        rw [ev_lst, es_nil, Res.ok_bind, if_pos (show ([] : List D).length ≤ line from Nat.zero_le _)]; rfl
      have r1 : It.sem G (.lst (.v 1)) [some (szD szs), some (.lst ((ordN p).map plD)), some (.int (s : Nat)), some (.lst (([] : List (List Int)).map plD)), o4, o5] = .ok ((ordN p).map plD) := rfl
      show Out.andThen (S.sem G (.seq (.asg 3 (.lst (.nil))) _) [some (szD szs), some (.lst ((ordN p).map plD)), some (.int (s : Nat)), o3, o4, o5]) _ = _
      rw [asg_to (env' := [some (szD szs), some (.lst ((ordN p).map plD)), some (.int (s : Nat)), some (.lst (([] : List (List Int)).map plD)), o4, o5]) l0 rfl, sv_dem, sv_seq, sv_for, r1, Res.ok_bind, e1, then_nx, List.nil_append, ← ord_snoc]
      exact e2
  obtain ⟨o2, o3, o4, o5, e⟩ := outer szs [] none none none none rfl
  have t0 : E.sem G (.lst (.cons (.tup (.nil)) .nil)) [some (szD szs), none, none, none, none, none] = .ok (.lst ((ordN []).map plD)) := by
    have l1 : ([] : List D).length ≤ line := by decide
    have l2 : [D.tup []].length ≤ line := by show 1 ≤ 1000000; decide
    simp only [ev_lst, es_cons, es_nil, ev_tup, l1, l2, if_true, Res.ok_bind]; rfl
  refine (congrArg outD (asg_to (env' := [some (szD szs), some (.lst ((ordN []).map plD)), none, none, none, none]) t0 rfl)).trans ?_
  rw [sv_dem, sv_seq, sv_for]
  show outD (Out.andThen (forS G [2] _ (szs.map fun s => D.int (s : Nat)) _) _) = _
  rw [e]
  rfl
end
end Tr

/-! Plain rows for tables: the table's own defs. -/
namespace Tr
open PySem PySem.Spec PyProof.Rows L2
section
variable {G : Gam} {env : Env}
/-- two or three hands of one to six choices -/
def TbOk (szs : List Nat) : Prop := (szs.length = 2 ∨ szs.length = 3) ∧ ∀ s ∈ szs, 0 < s ∧ s ≤ 6
theorem prodN_le {m : Nat} : ∀ {szs : List Nat}, (∀ s ∈ szs, s ≤ m) → prodN szs ≤ m ^ szs.length
  | [], _ => Nat.le_refl 1
  | s :: r, h => by
    rw [List.length_cons, Nat.pow_succ, Nat.mul_comm]
    exact Nat.mul_le_mul (h s List.mem_cons_self) (prodN_le fun t ht => h t (List.mem_cons_of_mem _ ht))
theorem TbOk.sz {szs : List Nat} (h : TbOk szs) : SzOk szs := by
  refine ⟨fun s hs => ⟨(h.2 s hs).1, by have := (h.2 s hs).2; omega⟩, ?_⟩
  have := prodN_le (m := 6) fun s hs => (h.2 s hs).2
  rcases h.1 with e | e <;> (rw [e] at this; omega)
theorem TbOk.pos {szs : List Nat} (h : TbOk szs) : ∀ s ∈ szs, 0 < s := fun s hs => (h.2 s hs).1
/-- the sizes that the laws draw -/
def szL (m : Nat) (ns : List Int) : List Nat := (List.range (2 + (cellN ns 0 % 2).toNat)).map fun k => 1 + (cellN ns (1 + k) % (m : Int)).toNat
theorem szL_ok {m : Nat} (hm : 0 < m) (hm6 : m ≤ 6) (ns : List Int) : TbOk (szL m ns) := by
  unfold szL
  refine ⟨by rw [List.length_map, List.length_range]; omega, fun s hs => ?_⟩
  obtain ⟨k, _, rfl⟩ := List.mem_map.mp hs
  have := Int.emod_lt_of_pos (cellN ns (1 + k)) (show (0 : Int) < (m : Int) by omega)
  have := Int.emod_nonneg (cellN ns (1 + k)) (show (m : Int) ≠ 0 by omega)
  omega
def ClOk (G : Gam) (cl : Nat) (ns : List Int) : Prop := ∀ k : Nat, G cl [.scr ns, .int (k : Int)] = .ok (.int (cellN ns k))
abbrev bSizesC (cl : Nat) (m : Int) : S :=
  .seq (.ret (.comp [1] (.rng (.ar .add (.int 2) (.ar .mod (.call cl (.cons (.v 0) (.cons (.int 0) .nil))) (.int 2)))) (.ar .add (.int 1) (.ar .mod (.call cl (.cons (.v 0) (.cons (.ar .add (.int 1) (.v 1)) .nil))) (.int m))))) .skip
theorem size_at {cl m : Nat} {ns : List Int} (hc : ClOk G cl ns) (hm : 0 < m) {o : Option D} {k : Nat} (e : E.sem G (.v 1) env = .ok (.int (k : Nat))) (e0 : E.sem G (.v 0) env = .ok (.scr ns)) : E.sem G (.ar .add (.int 1) (.ar .mod (.call cl (.cons (.v 0) (.cons (.ar .add (.int 1) (.v 1)) .nil))) (.int (m : Nat)))) env = .ok (.int ((1 + (cellN ns (1 + k) % (m : Int)).toNat : Nat) : Int)) := by
  have c1 := hc (1 + k)
  have n0 := Int.emod_nonneg (cellN ns (1 + k)) (show (m : Int) ≠ 0 by omega)
  have a1 : E.sem G (.ar .add (.int 1) (.v 1)) env = .ok (.int ((1 + k : Nat) : Int)) := by
    rw [ev_ar, e]; rfl
  have e2 : E.sem G (.call cl (.cons (.v 0) (.cons (.ar .add (.int 1) (.v 1)) .nil))) env = .ok (.int (cellN ns (1 + k))) := call_ev (ds := [.scr ns, .int ((1 + k : Nat) : Int)]) (by rw [es_cons, e0, es_cons, a1]; rfl) c1
  rw [ev_ar, ev_ar, e2]
  show Res.bind (AOp.int .mod (cellN ns (1 + k)) (m : Int)) _ = _
  rw [ao_mod (by omega)]
  show Res.ok (D.int (1 + cellN ns (1 + k) % (m : Int))) = _
  congr 2
  omega
theorem sizesC_sem {cl m : Nat} {ns : List Int} (hc : ClOk G cl ns) (hm : 0 < m) : outD ((bSizesC cl m).sem G [some (.scr ns), none]) = .ok (szD (szL m ns)) := by
  have r1 : It.sem G (.rng (.ar .add (.int 2) (.ar .mod (.call cl (.cons (.v 0) (.cons (.int 0) .nil))) (.int 2)))) [some (.scr ns), none] = .ok ((List.range (2 + (cellN ns 0 % 2).toNat)).map fun i => D.int (i : Nat)) := by
    refine et_rngN ?_ (by omega)
    have c0 : E.sem G (.call cl (.cons (.v 0) (.cons (.int 0) .nil))) [some (.scr ns), none] = .ok (.int (cellN ns 0)) := call_ev (ds := [.scr ns, .int ((0 : Nat) : Int)]) rfl (hc 0)
    have m0 : AOp.int .mod (cellN ns 0) 2 = .ok (.int (cellN ns 0 % 2)) := ao_mod (by decide)
    rw [ev_ar, ev_ar, c0]
    simp only [ev_int, Res.ok_bind, ao_int, m0, ao_add]
    congr 2
    omega
  have r3 := compE_one (G := G) (i := 1) (e := .ar .add (.int 1) (.ar .mod (.call cl (.cons (.v 0) (.cons (.ar .add (.int 1) (.v 1)) .nil))) (.int (m : Nat)))) (env := [some (.scr ns), none]) (c := fun i : Nat => D.int (i : Nat)) (r := fun k => .int ((1 + (cellN ns (1 + k) % (m : Int)).toNat : Nat) : Int))
    (xs := List.range (2 + (cellN ns 0 % 2).toNat)) (fun n _ => size_at (o := none) hc hm rfl rfl)
  rw [sv_seq, sv_ret, ev_comp, r1, Res.ok_bind, r3, Res.ok_bind, if_pos (by rw [List.length_map, List.length_range]; show _ ≤ 1000000; omega)]
  unfold szD szL
  rw [List.map_map]
  rfl
/-- .. put together in a loop -/
abbrev bSizesA (cl : Nat) (m : Int) : S :=
  .seq (.asg 1 (.lst (.nil))) (
  .dem 1 3 (.seq (.for_ [2] (.rng (.ar .add (.int 2) (.ar .mod (.call cl (.cons (.v 0) (.cons (.int 0) .nil))) (.int 2))))
    (.seq (.app 1 (.nil) (.ar .add (.int 1) (.ar .mod (.call cl (.cons (.v 0) (.cons (.ar .add (.int 1) (.v 2)) .nil))) (.int m)))) .skip)) (
  .seq (.ret (.v 1)) .skip)))
/-! ### is it a table -/
abbrev bAskS (c : Nat) : S :=
  .seq (.iff (.or (.cmp .lt (.len (.v 0)) (.int 2)) (.cmp .gt (.len (.v 0)) (.int 3)))
    (.seq (.rse c) .skip)
    (.skip)) (
  .seq (.for_ [1] (.lst (.v 0))
    (.seq (.iff (.or (.cmp .lt (.v 1) (.int 1)) (.cmp .gt (.v 1) (.gint "MOST" 6)))
      (.seq (.rse c) .skip)
      (.skip)) .skip)) .skip)
theorem askS_sem {c : Nat} {szs : List Nat} (h : TbOk szs) : outD ((bAskS c).sem G [some (szD szs), none]) = .ok .non := by
  obtain ⟨env, he, _⟩ := forS_all (G := G) (i := 1) (b := (.seq (.iff (.or (.cmp .lt (.v 1) (.int 1)) (.cmp .gt (.v 1) (.gint "MOST" 6))) (.seq (.rse c) .skip) (.skip)) .skip)) (c := fun s : Nat => D.int (s : Nat)) (xs := szs) (P := fun env => ∃ o, env = [some (szD szs), o]) (env := [some (szD szs), none]) (by
    rintro env s hs ⟨o, rfl⟩
    obtain ⟨h1, h2⟩ := h.2 s hs
    have e1 : decide ((s : Int) < 1) = false := decide_eq_false (by omega)
    have e2 : decide ((6 : Int) < (s : Int)) = false := decide_eq_false (by omega)
    refine ⟨_, (iff_to ?_).trans rfl, some (.int (s : Nat)), rfl⟩
    simp only [List.set_cons_zero, List.set_cons_succ, ev_or, ev_cmp, ev_v, ev_int, ev_gint, getE_0, getE_s, Res.ok_bind, ao_lt, ao_gt, e1, e2]
    rfl) ⟨none, rfl⟩
  have e1 : decide ((szs.length : Int) < 2) = false := decide_eq_false (by rcases h.1 with e | e <;> omega)
  have e2 : decide ((3 : Int) < (szs.length : Int)) = false := decide_eq_false (by rcases h.1 with e | e <;> omega)
  refine (congrArg outD (iff_to ?_)).trans ?_
  · simp only [ev_or, ev_cmp, ev_len, ev_v, ev_int, getE_0, getE_s, Res.ok_bind, ao_lenL, List.length_map, ao_lt, ao_gt, e1, e2]
    rfl
  · rw [sv_seq, sv_for]
    show outD (Out.andThen (forS G [1] _ (szs.map fun s => D.int (s : Nat)) _) _) = _
    rw [he]
    rfl
theorem key_pl (k : List Int) : keyD (plD k) = some k := intsOf_ints k
theorem dget_pl {kvs : List (List Int × D)} {k : List Int} {d : D} (h : findD kvs k = some d) : dgetD (.dic kvs) (plD k) = .ok d := by
  unfold dgetD
  simp only [key_pl, h]
theorem din_pl {kvs : List (List Int × D)} {k : List Int} : dinD (plD k) (.dic kvs) = .ok (findD kvs k).isSome := by
  unfold dinD
  simp only [key_pl]
/-- a dict with just these plays -/
structure CellsOk (szs : List Nat) (f : List Int → List D) (kvs : List (List Int × D)) : Prop where
  len : kvs.length = prodN szs
  get : ∀ k ∈ ordN szs, findD kvs k = some (.lst (f k))
def EarnOk (szs : List Nat) (f : List Int → List D) : Prop := ∀ k ∈ ordN szs, (f k).length = szs.length ∧ D.pureL (f k) = true
abbrev bAskC (c : Nat) : S :=
  .seq (.iff (.ne (.len (.v 1)) (.len (.v 0)))
    (.seq (.rse c) .skip)
    (.skip)) (
  .seq (.for_ [3] (.lst (.v 0))
    (.seq (.iff (.dnotin (.v 3) (.v 1))
      (.seq (.rse c) .skip)
      (.skip)) (
    .seq (.iff (.ne (.len (.dget (.v 1) (.v 3))) (.v 2))
      (.seq (.rse c) .skip)
      (.skip)) .skip))) .skip)
theorem lenD_lst {xs : List D} : lenD (.lst xs) = .ok (.int xs.length) := rfl
theorem askC_sem {c : Nat} {szs : List Nat} {f : List Int → List D} {kvs : List (List Int × D)} (hk : CellsOk szs f kvs) (hf : EarnOk szs f) : outD ((bAskC c).sem G [some (.lst ((ordN szs).map plD)), some (.dic kvs), some (.int (szs.length : Nat)), none]) = .ok .non := by
  obtain ⟨env, he, _⟩ := forS_all (G := G) (i := 3) (b := (.seq (.iff (.dnotin (.v 3) (.v 1)) (.seq (.rse c) .skip) (.skip)) (.seq (.iff (.ne (.len (.dget (.v 1) (.v 3))) (.v 2)) (.seq (.rse c) .skip) (.skip)) .skip))) (c := plD) (xs := ordN szs)
    (P := fun env => ∃ o, env = [some (.lst ((ordN szs).map plD)), some (.dic kvs), some (.int (szs.length : Nat)), o]) (env := [some (.lst ((ordN szs).map plD)), some (.dic kvs), some (.int (szs.length : Nat)), none]) (by
    rintro env k hs ⟨o, rfl⟩
    have g1 := hk.get k hs
    refine ⟨[some (.lst ((ordN szs).map plD)), some (.dic kvs), some (.int (szs.length : Nat)), some (plD k)], (iff_to ?_).trans ((iff_to ?_).trans rfl), some (plD k), rfl⟩
    · simp only [List.set_cons_zero, List.set_cons_succ, ev_dnotin, ev_v, getE_0, getE_s, Res.ok_bind, din_pl, g1]
      rfl
    · simp only [List.set_cons_zero, List.set_cons_succ, ev_ne, ev_len, ev_dget, ev_v, getE_0, getE_s, Res.ok_bind, dget_pl g1, lenD_lst, (hf k hs).1, ao_eqi, ao_not, decide_true]
      rfl) ⟨none, rfl⟩
  refine (congrArg outD (iff_to ?_)).trans ?_
  · have ld : lenD (.dic kvs) = .ok (.int kvs.length) := rfl
    simp only [ev_ne, ev_len, ev_v, getE_0, getE_s, Res.ok_bind, ao_lenL, ld, List.length_map, ord_len, hk.len, ao_eqi, ao_not, decide_true]
    rfl
  · rw [sv_seq, sv_for]
    show outD (Out.andThen (forS G [3] _ ((ordN szs).map plD) _) _) = _
    rw [he]
    rfl
/-! ### dicts -/
theorem findD_nil (k : List Int) : findD [] k = none := rfl
theorem findD_cons (a : List Int × D) (r : List (List Int × D)) (k : List Int) : findD (a :: r) k = if a.1 = k then some a.2 else findD r k := by
  unfold findD
  rw [List.find?_cons]
  by_cases h : a.1 = k
  · rw [if_pos h, decide_eq_true h]; rfl
  · rw [if_neg h, decide_eq_false h]
theorem find_map (g : List Int → D) : ∀ {ks : List (List Int)} {k : List Int}, k ∈ ks → findD (ks.map fun k => (k, g k)) k = some (g k)
  | a :: r, k, h => by
    rw [List.map_cons, findD_cons]
    by_cases e : a = k
    · subst e; rw [if_pos rfl]
    · rw [if_neg e]
      exact find_map g ((List.mem_cons.mp h).resolve_left fun z => e z.symm)
theorem put_new {es : List (List Int × D)} {k : List Int} {d : D} (h : ∀ kv ∈ es, kv.1 ≠ k) : putD es k d = es ++ [(k, d)] := by
  unfold putD
  rw [if_neg]
  rw [List.any_eq_true]
  rintro ⟨kv, h1, h2⟩
  exact h kv h1 (of_decide_eq_true h2)
theorem fill_ok {kvs : List (List Int × D)} {f : List Int → List D} : ∀ {ks : List (List Int)} {es : List (List Int × D)}, (∀ k ∈ ks, findD kvs k = some (.lst (f k)) ∧ D.pureL (f k) = true) → ks.Nodup → (∀ k ∈ ks, ∀ kv ∈ es, kv.1 ≠ k) → es.length + ks.length ≤ line →
    fillD kvs (ks.map plD) es = .ok (es ++ ks.map fun k => (k, .tup (f k)))
  | [], es, _, _, _, _ => by rw [List.map_nil, List.map_nil, List.append_nil]; rfl
  | k :: ks, es, h, hn, hd, hl => by
    obtain ⟨h1, h2⟩ := h k List.mem_cons_self
    rw [List.length_cons] at hl
    rw [List.map_cons]
    unfold fillD
    simp only [key_pl, h1]
    rw [if_pos ⟨h2, by omega⟩, put_new (hd k List.mem_cons_self), fill_ok (fun k hk => h k (List.mem_cons_of_mem _ hk)) (List.nodup_cons.mp hn).2 (fun k' hk' kv hkv => ?_) (by rw [List.length_append, List.length_singleton]; omega)]
    · rw [List.map_cons, List.append_assoc]; rfl
    · rcases List.mem_append.mp hkv with z | z
      · exact hd k' (List.mem_cons_of_mem _ hk') kv z
      · cases List.mem_singleton.mp z
        exact fun e => (List.nodup_cons.mp hn).1 (by rw [show k = k' from e]; exact hk')
/-- a table as a value -/
def tbD (szs : List Nat) (f : List Int → List D) : D := .obj [("many", szD szs), ("earnings", .dic ((ordN szs).map fun k => (k, .tup (f k))))]
theorem szD_pure (szs : List Nat) : D.pureL (szs.map fun s => D.int (s : Nat)) = true := pureL_map (fun _ => rfl) szs
theorem mk_sem {a b c : Nat} {szs : List Nat} {f : List Int → List D} {kvs : List (List Int × D)} (h : TbOk szs) (hk : CellsOk szs f kvs) (hf : EarnOk szs f) (ha : G a [szD szs] = .ok .non) (hb : G b [szD szs] = .ok (.lst ((ordN szs).map plD)))
    (hc : G c [.lst ((ordN szs).map plD), .dic kvs, .int (szs.length : Nat)] = .ok .non) : mkT G a b c [szD szs, .dic kvs] = .ok (tbD szs f) := by
  unfold mkT
  show (Res.bind (G a [szD szs]) fun _ => _) = _
  rw [ha]
  show (Res.bind (G b [szD szs]) fun od => _) = _
  rw [hb]
  show (Res.bind (G c [.lst ((ordN szs).map plD), .dic kvs, .int ((szs.map fun s => D.int (s : Nat)).length : Nat)]) fun _ => _) = _
  rw [List.length_map, hc]
  show (if D.pureL (szs.map fun s => D.int (s : Nat)) = true then Res.bind (fillD kvs ((ordN szs).map plD) []) fun es => Res.ok (D.obj [("many", szD szs), ("earnings", .dic es)]) else .stuck) = _
  rw [if_pos (szD_pure szs), fill_ok (fun k hk' => ⟨hk.get k hk', (hf k hk').2⟩) (ord_nodup szs) (fun _ _ kv z => absurd z List.not_mem_nil) (by rw [ord_len]; have := h.sz.2; show 0 + _ ≤ 1000000; omega)]
  rfl
theorem tb_many {szs : List Nat} {f : List Int → List D} : fldD "many" (tbD szs f) = .ok (szD szs) := rfl
theorem tb_earn {szs : List Nat} {f : List Int → List D} : fldD "earnings" (tbD szs f) = .ok (.dic ((ordN szs).map fun k => (k, .tup (f k)))) := rfl
/-! ### what a play earns -/
/-- the first hand that lacks its choice -/
def firstBad : Nat → List Nat → List Int → Option (Nat × Int)
  | i, s :: r, c :: k => if c < 0 ∨ (s : Int) ≤ c then some (i, c) else firstBad (i + 1) r k
  | _, _, _ => none
theorem firstBad_ok : ∀ {szs : List Nat} {k : List Int} (i : Nat), okP szs k → firstBad i szs k = none
  | [], k, i, h => by cases (show k = [] from h); rfl
  | s :: r, k, i, h => by
    obtain ⟨c, k', rfl, h0, h1, h2⟩ := h
    unfold firstBad
    rw [if_neg (by omega), firstBad_ok (i + 1) h2]
theorem ok_firstBad : ∀ {szs : List Nat} {k : List Int} (i : Nat), szs.length = k.length → firstBad i szs k = none → okP szs k
  | [], [], _, _, _ => rfl
  | [], _ :: _, _, h, _ => by cases h
  | _ :: _, [], _, h, _ => by cases h
  | s :: r, c :: k, i, h, e => by
    unfold firstBad at e
    by_cases z : c < 0 ∨ (s : Int) ≤ c
    · rw [if_pos z] at e; cases e
    · rw [if_neg z] at e
      exact ⟨c, k, rfl, by omega, by omega, ok_firstBad (i + 1) (by simpa using h) e⟩
abbrev bEarnB (c : Nat) : S := (.seq (.iff (.or (.cmp .lt (.ix (.v 1) (.v 2)) (.int 0)) (.cmp .ge (.ix (.v 1) (.v 2)) (.v 3)))
      (.seq (.rsf c ["hand", "choice"] (.cons (.v 2) (.cons (.ix (.v 1) (.v 2)) .nil))) .skip)
      (.skip)) .skip)
abbrev bEarned (c : Nat) : S :=
  .seq (.for_ [2, 3] (.enum (.fld "many" (.v 0))) (bEarnB c)) (
  .seq (.ret (.lstOf (.pin (.dget (.fld "earnings" (.v 0)) (.v 1))))) .skip)
theorem earn_loop (c : Nat) (tb : D) (k : List Int) : ∀ (l : List Nat) (kk : List Int) (i : Nat) (o2 o3 : Option D), l.length = kk.length → (∀ j : Nat, k[i + j]? = kk[j]?) →
    (firstBad i l kk = none → ∃ o2' o3', forS G [2, 3] (bEarnB c) (((l.map fun s => D.int (s : Nat)).zipIdx i).map fun p => D.tup [.int (p.2 : Nat), p.1]) [some tb, some (plD k), o2, o3] = .ok (.nx [some tb, some (plD k), o2', o3'])) ∧
    (∀ h x, firstBad i l kk = some (h, x) → forS G [2, 3] (bEarnB c) (((l.map fun s => D.int (s : Nat)).zipIdx i).map fun p => D.tup [.int (p.2 : Nat), p.1]) [some tb, some (plD k), o2, o3] = .exc c [("hand", (h : Nat)), ("choice", x)])
  | [], [], i, o2, o3, _, _ => ⟨fun _ => ⟨o2, o3, rfl⟩, fun h x z => (by cases z)⟩
  | [], _ :: _, _, _, _, h, _ => by cases h
  | _ :: _, [], _, _, _, h, _ => by cases h
  | s :: l, x :: kk, i, o2, o3, hl, hk => by
    have hx : k[i]? = some x := by have := hk 0; simpa using this
    have hx' : ixD (plD k) (.int (i : Nat)) = .ok (.int x) := ix_t rfl (by rw [List.getElem?_map, hx]; rfl)
    rw [List.map_cons, List.zipIdx_cons, List.map_cons, forS_two]
    have c0 : E.sem G (.or (.cmp .lt (.ix (.v 1) (.v 2)) (.int 0)) (.cmp .ge (.ix (.v 1) (.v 2)) (.v 3))) [some tb, some (plD k), some (.int (i : Nat)), some (.int (s : Nat))] = .ok (.bl (decide (x < 0) || decide ((s : Int) ≤ x))) := by
      simp only [ev_or, ev_cmp, ev_ix, ev_v, ev_int, getE_0, getE_s, Res.ok_bind, hx', ao_lt, ao_ge]
      generalize decide (x < 0) = t
      generalize decide ((s : Int) ≤ x) = u
      cases t <;> cases u <;> rfl
    unfold firstBad
    by_cases z : x < 0 ∨ (s : Int) ≤ x
    · rw [if_pos z]
      refine ⟨fun q => (by cases q), fun h y q => ?_⟩
      cases q
      have ct : (decide (x < 0) || decide ((s : Int) ≤ x)) = true := by simpa using z
      rw [ct] at c0
      show Out.andThen (S.sem G (.seq (.iff (.or (.cmp .lt (.ix (.v 1) (.v 2)) (.int 0)) (.cmp .ge (.ix (.v 1) (.v 2)) (.v 3))) _ _) .skip) [some tb, some (plD k), some (.int (i : Nat)), some (.int (s : Nat))]) _ = _
      rw [sv_seq, sv_iff, c0, iffS_t, sv_seq, sv_rsf]
      simp only [es_cons, es_nil, ev_ix, ev_v, getE_0, getE_s, Res.ok_bind, hx']
      rfl
    · rw [if_neg z]
      have cf : (decide (x < 0) || decide ((s : Int) ≤ x)) = false := by
        rw [decide_eq_false (fun q => z (.inl q)), decide_eq_false (fun q => z (.inr q))]; rfl
      rw [cf] at c0
      have st : S.sem G (bEarnB c) [some tb, some (plD k), some (.int (i : Nat)), some (.int (s : Nat))] = .ok (.nx [some tb, some (plD k), some (.int (i : Nat)), some (.int (s : Nat))]) := (iff_to c0).trans rfl
      obtain ⟨r1, r2⟩ := earn_loop c tb k l kk (i + 1) (some (.int (i : Nat))) (some (.int (s : Nat))) (by simpa using hl) (fun j => by have := hk (j + 1); rw [Nat.add_assoc, Nat.add_comm 1 j, this]; rfl)
      have st' : S.sem G (bEarnB c) (([some tb, some (plD k), o2, o3].set 2 (some (D.int (i : Nat)))).set 3 (some (D.int (s : Nat)))) = .ok (.nx [some tb, some (plD k), some (.int (i : Nat)), some (.int (s : Nat))]) := st
      refine ⟨fun q => ?_, fun h y q => ?_⟩
      · obtain ⟨o2', o3', e⟩ := r1 q
        exact ⟨o2', o3', by rw [st', then_nx]; exact e⟩
      · rw [st', then_nx]; exact r2 h y q
theorem earned_sem {c : Nat} {szs : List Nat} {f : List Int → List D} {k : List Int} (h : TbOk szs) (hf : EarnOk szs f) (hk : okP szs k) : outD ((bEarned c).sem G [some (tbD szs f), some (plD k), none, none]) = .ok (.lst (f k)) := by
  have hl : szs.length = k.length := by rw [← dig_valP hk, dig_len]
  have hm := (mem_ord h.pos).mpr hk
  obtain ⟨o2, o3, e⟩ := (earn_loop (G := G) c (tbD szs f) k szs k 0 none none hl (fun j => by rw [Nat.zero_add])).1 (firstBad_ok 0 hk)
  have r1 : It.sem G (.enum (.fld "many" (.v 0))) [some (tbD szs f), some (plD k), none, none] = .ok (((szs.map fun s => D.int (s : Nat)).zipIdx 0).map fun p => D.tup [.int (p.2 : Nat), p.1]) := by
    simp only [et_enum, ev_fld, ev_v, getE_0, Res.ok_bind, tb_many]
  rw [sv_seq, sv_for, r1, Res.ok_bind, e, then_nx]
  have p1 : pinD (.tup (f k)) = .ok (.tup (f k)) := by show (if _ then _ else _) = _; rw [if_pos (hf k hm).2]
  simp only [sv_seq, sv_ret, ev_lstOf, ev_pin, ev_dget, ev_fld, ev_v, getE_0, getE_s, Res.ok_bind, tb_earn, dget_pl (find_map (fun k => D.tup (f k)) hm), p1, ao_lstT]
  rfl
theorem earned_bad {c : Nat} {szs : List Nat} {f : List Int → List D} {k : List Int} {h : Nat} {x : Int} (hl : szs.length = k.length) (hb : firstBad 0 szs k = some (h, x)) : outD ((bEarned c).sem G [some (tbD szs f), some (plD k), none, none]) = .exc c [("hand", (h : Nat)), ("choice", x)] := by
  have e := (earn_loop (G := G) c (tbD szs f) k szs k 0 none none hl (fun j => by rw [Nat.zero_add])).2 h x hb
  have r1 : It.sem G (.enum (.fld "many" (.v 0))) [some (tbD szs f), some (plD k), none, none] = .ok (((szs.map fun s => D.int (s : Nat)).zipIdx 0).map fun p => D.tup [.int (p.2 : Nat), p.1]) := by
    simp only [et_enum, ev_fld, ev_v, getE_0, Res.ok_bind, tb_many]
  rw [sv_seq, sv_for, r1, Res.ok_bind, e]
  rfl
abbrev bSizesM : S := .seq (.ret (.lstOf (.pin (.fld "many" (.v 0))))) .skip
theorem pin_sz (szs : List Nat) : pinD (szD szs) = .ok (szD szs) := by show (if _ then _ else _) = _; rw [if_pos (szD_pure szs)]
theorem sizesM_sem {szs : List Nat} {f : List Int → List D} : outD (bSizesM.sem G [some (tbD szs f)]) = .ok (szD szs) := by
  simp only [bSizesM, sv_seq, sv_ret, ev_lstOf, ev_pin, ev_fld, ev_v, getE_0, Res.ok_bind, tb_many, pin_sz, ao_lstL]
  rfl
/-! ### rests -/
theorem cut_from {α : Type} (xs : List α) (k : Nat) (h : k ≤ xs.length) : cutD xs (some (k : Int)) none = xs.drop k := by
  unfold cutD
  rw [HT.sIx_none, HT.sIx_nat, Nat.min_eq_left h]
  rw [List.take_of_length_le (by rw [List.length_drop]; exact Nat.le_refl _)]
abbrev bRest : S := .seq (.ret (.catT (.slT (.v 0) .no (.yes (.v 1))) (.slT (.v 0) (.yes (.ar .add (.v 1) (.int 1))) .no))) .skip
def restP (k : List Int) (h : Nat) : List Int := k.take h ++ k.drop (h + 1)
theorem slT_to (k : List Int) (h : Nat) : slTD (plD k) none (some (h : Int)) = .ok (plD (k.take h)) := by
  show Res.ok (D.tup (cutD (k.map D.int) none (some (h : Int)))) = _
  rw [cut_to, ← List.map_take]
theorem slT_from (k : List Int) (h : Nat) (hh : h ≤ k.length) : slTD (plD k) (some (h : Int)) none = .ok (plD (k.drop h)) := by
  show Res.ok (D.tup (cutD (k.map D.int) (some (h : Int)) none)) = _
  rw [cut_from _ _ (by rwa [List.length_map]), ← List.map_drop]
theorem catT_pl {a b : List Int} (h : a.length + b.length ≤ 1000) : catTD (plD a) (plD b) = .ok (plD (a ++ b)) := by
  rw [catT_ok (by rw [List.length_map, List.length_map]; show _ ≤ 1000000; omega), ← List.map_append]
theorem rest_sem {k : List Int} {h : Nat} (hh : h < k.length) (hl : k.length ≤ 900) : outD (bRest.sem G [some (plD k), some (.int (h : Nat))]) = .ok (plD (restP k h)) := by
  have a1 : ((h : Int) + 1) = ((h + 1 : Nat) : Int) := by omega
  have e : E.sem G (.catT (.slT (.v 0) .no (.yes (.v 1))) (.slT (.v 0) (.yes (.ar .add (.v 1) (.int 1))) .no)) [some (plD k), some (.int (h : Nat))] = .ok (plD (restP k h)) := by
    simp only [ev_catT, ev_slT, eo_no, eo_yes, ev_ar, ev_v, ev_int, getE_0, getE_s, Res.ok_bind, ao_int, ao_add, slT_to, a1, slT_from k (h + 1) (by omega)]
    exact catT_pl (by rw [List.length_take, List.length_drop]; omega)
  rw [sv_seq, sv_ret, e]; rfl
abbrev bJoin : S := .seq (.ret (.catT (.catT (.slT (.v 0) .no (.yes (.v 1))) (.tup (.cons (.v 2) .nil))) (.slT (.v 0) (.yes (.v 1)) .no))) .skip
def joinP (r : List Int) (h : Nat) (c : Int) : List Int := r.take h ++ [c] ++ r.drop h
theorem join_sem {r : List Int} {h : Nat} {c : Int} (hh : h ≤ r.length) (hl : r.length ≤ 900) : outD (bJoin.sem G [some (plD r), some (.int (h : Nat)), some (.int c)]) = .ok (plD (joinP r h c)) := by
  have l1 : [D.int c].length ≤ line := by show 1 ≤ 1000000; decide
  have c1 : catTD (plD (r.take h)) (plD [c]) = .ok (plD (r.take h ++ [c])) := catT_pl (by rw [List.length_take]; show _ + 1 ≤ 1000; omega)
  have e : E.sem G (.catT (.catT (.slT (.v 0) .no (.yes (.v 1))) (.tup (.cons (.v 2) .nil))) (.slT (.v 0) (.yes (.v 1)) .no)) [some (plD r), some (.int (h : Nat)), some (.int c)] = .ok (plD (joinP r h c)) := by
    simp only [ev_catT, ev_slT, eo_no, eo_yes, ev_tup, es_cons, es_nil, ev_v, ev_int, getE_0, getE_s, Res.ok_bind, slT_to, slT_from r h hh, l1, if_true]
    show (Res.bind (catTD (plD (r.take h)) (plD [c])) fun x => catTD x (plD (r.drop h))) = _
    rw [c1]
    exact catT_pl (by rw [List.length_append, List.length_take, List.length_drop]; show _ + 1 + _ ≤ 1000; omega)
  rw [sv_seq, sv_ret, e]; rfl
theorem join_rest {k : List Int} {h : Nat} (hh : h < k.length) (c : Int) : joinP (restP k h) h c = k.set h c := by
  unfold joinP restP
  rw [List.take_append_of_le_length (by rw [List.length_take]; omega), List.take_take, Nat.min_self, List.drop_append_of_le_length (by rw [List.length_take]; omega)]
  have : (k.take h).drop h = [] := List.drop_eq_nil_of_le (by rw [List.length_take]; omega)
  rw [this, List.nil_append, List.append_assoc, List.set_eq_take_append_cons_drop, if_pos hh]
  rfl
theorem okP_set : ∀ {szs : List Nat} {k : List Int} {h s : Nat} {c : Int}, okP szs k → szs[h]? = some s → 0 ≤ c → c < s → okP szs (k.set h c)
  | [], _, _, _, _, _, e, _, _ => by cases e
  | t :: r, k, 0, s, c, hk, e, h0, h1 => by
    obtain ⟨x, k', rfl, _, _, h2⟩ := hk
    cases e
    exact ⟨c, k', rfl, h0, h1, h2⟩
  | t :: r, k, h + 1, s, c, hk, e, h0, h1 => by
    obtain ⟨x, k', rfl, g0, g1, h2⟩ := hk
    exact ⟨x, k'.set h c, rfl, g0, g1, okP_set h2 (by simpa using e) h0 h1⟩
theorem okP_len {szs : List Nat} {k : List Int} (h : okP szs k) : k.length = szs.length := by rw [← dig_valP h, dig_len]
end
end Tr

/-! Plain rows for tables: drawn numbers, who goes off. -/
namespace Tr
open PySem PySem.Spec PyProof.Rows L2
section
variable {G : Gam} {env : Env}
/-! ### numbers drawn from the script -/
def vOf : Res D → Int
  | .ok (.int i) => i
  | _ => 0
abbrev bBlock : S :=
  .seq (.asg 2 (.int 0)) (
  .seq (.iff (.cmp .lt (.ar .add (.int 1) (.ar .mod (.ar .fdiv (.v 1) (.int 8)) (.int 62))) (.len (.v 0)))
    (.seq (.asg 2 (.ar .fdiv (.ix (.v 0) (.ar .add (.int 1) (.ar .mod (.ar .fdiv (.v 1) (.int 8)) (.int 62)))) (.ar .pow (.int 10) (.int 64)))) .skip)
    (.skip)) (
  .seq (.for_ [3] (.rng (.ar .mod (.v 1) (.int 8)))
    (.seq (.asg 2 (.ar .fdiv (.v 2) (.int 2147483587))) .skip)) (
  .seq (.ret (.ar .mod (.v 2) (.int 2147483587))) .skip)))
theorem block_sem (ns : List Int) (k : Nat) : ∃ v : Int, outD (bBlock.sem G [some (.scr ns), some (.int (k : Nat)), none, none]) = .ok (.int v) ∧ 0 ≤ v ∧ v < 2147483587 := by
  have d8 : AOp.int .fdiv (k : Int) 8 = .ok (.int ((k : Int) / 8)) := ao_fdiv (by decide) (by decide)
  have m62 : AOp.int .mod ((k : Int) / 8) 62 = .ok (.int ((k : Int) / 8 % 62)) := ao_mod (by decide)
  have p64 : AOp.int .pow 10 64 = .ok (.int 10000000000000000000000000000000000000000000000000000000000000000) := by rw [ao_pow (by decide)]; rfl
  have fd : ∀ z : Int, AOp.int .fdiv z 2147483587 = .ok (.int (z / 2147483587)) := fun z => ao_fdiv (by decide) (by decide)
  have fp : ∀ z : Int, AOp.int .fdiv z 10000000000000000000000000000000000000000000000000000000000000000 = .ok (.int (z / 10000000000000000000000000000000000000000000000000000000000000000)) := fun z => ao_fdiv (by decide) (by decide)
  have m8 : AOp.int .mod (k : Int) 8 = .ok (.int ((k % 8 : Nat) : Int)) := by rw [ao_mod (by decide)]; rfl
  have st : ∃ z : Int, S.sem G (.iff (.cmp .lt (.ar .add (.int 1) (.ar .mod (.ar .fdiv (.v 1) (.int 8)) (.int 62))) (.len (.v 0))) (.seq (.asg 2 (.ar .fdiv (.ix (.v 0) (.ar .add (.int 1) (.ar .mod (.ar .fdiv (.v 1) (.int 8)) (.int 62)))) (.ar .pow (.int 10) (.int 64)))) .skip) (.skip)) [some (.scr ns), some (.int (k : Nat)), some (.int 0), none] =
      .ok (.nx [some (.scr ns), some (.int (k : Nat)), some (.int z), none]) := by
    by_cases h : (1 + (k : Int) / 8 % 62) < (ns.length : Int)
    · have hx : ixD (.scr ns) (.int (1 + (k : Int) / 8 % 62)) = .ok (.int (ns.getD (1 + k / 8 % 62) 0)) := by
        have hlt : 1 + k / 8 % 62 < ns.length := by omega
        refine ix_s (n := 1 + k / 8 % 62) (by omega) ?_
        rw [List.getD_eq_getElem?_getD, List.getElem?_eq_getElem hlt]; rfl
      refine ⟨ns.getD (1 + k / 8 % 62) 0 / 10000000000000000000000000000000000000000000000000000000000000000, ?_⟩
      simp only [sv_iff, ev_cmp, ev_ar, ev_v, ev_int, ev_len, getE_0, getE_s, Res.ok_bind, ao_int, d8, m62, ao_add, ao_lenS, ao_lt, decide_eq_true h, iffS_t, sv_seq, sv_asg, ev_ix, hx, p64, fp, List.set_cons_zero, List.set_cons_succ, then_nx, sv_skip]
    · refine ⟨0, ?_⟩
      simp only [sv_iff, ev_cmp, ev_ar, ev_v, ev_int, ev_len, getE_0, getE_s, Res.ok_bind, ao_int, d8, m62, ao_add, ao_lenS, ao_lt, decide_eq_false h, iffS_f, sv_skip]
  obtain ⟨z, st⟩ := st
  have r1 : It.sem G (.rng (.ar .mod (.v 1) (.int 8))) [some (.scr ns), some (.int (k : Nat)), some (.int z), none] = .ok ((List.range (k % 8)).map fun i => D.int (i : Nat)) := et_rngN (by
    simp only [ev_ar, ev_v, ev_int, getE_0, getE_s, Res.ok_bind, ao_int, m8]) (by omega)
  obtain ⟨env, he, y, o3, rfl⟩ := forS_all (G := G) (i := 3) (b := (.seq (.asg 2 (.ar .fdiv (.v 2) (.int 2147483587))) .skip)) (c := fun i : Nat => D.int (i : Nat)) (xs := List.range (k % 8)) (P := fun env => ∃ (y : Int) (o3 : Option D), env = [some (.scr ns), some (.int (k : Nat)), some (.int y), o3]) (env := [some (.scr ns), some (.int (k : Nat)), some (.int z), none]) (by
    rintro env i _ ⟨y, o3, rfl⟩
    refine ⟨_, ?_, y / 2147483587, some (.int (i : Nat)), rfl⟩
    simp only [List.set_cons_zero, List.set_cons_succ, sv_seq, sv_asg, sv_skip, ev_ar, ev_v, ev_int, getE_0, getE_s, Res.ok_bind, ao_int, fd, then_nx]) ⟨z, none, rfl⟩
  refine ⟨y % 2147483587, ?_, Int.emod_nonneg _ (by decide), Int.emod_lt_of_pos _ (by decide)⟩
  refine (congrArg outD (asg_to (env' := [some (.scr ns), some (.int (k : Nat)), some (.int 0), none]) (d := .int 0) rfl rfl)).trans ?_
  rw [sv_seq, st, then_nx, sv_seq, sv_for, r1, Res.ok_bind, he, then_nx, sv_seq, sv_ret]
  have m1 : AOp.int .mod y 2147483587 = .ok (.int (y % 2147483587)) := ao_mod (by decide)
  simp only [ev_ar, ev_v, ev_int, getE_0, getE_s, Res.ok_bind, ao_int, m1]
  rfl
abbrev bMixed (bk : Nat) : S :=
  .seq (.asg 2 (.int 0)) (
  .seq (.iff (.cmp .gt (.len (.v 0)) (.int 0))
    (.seq (.asg 2 (.pur (.ix (.v 0) (.int 0)))) .skip)
    (.skip)) (
  .seq (.iff (.eq (.ar .mod (.ar .fdiv (.v 2) (.ar .pow (.int 10) (.int 6))) (.int 2)) (.int 1))
    (.seq (.ret (.call bk (.cons (.v 0) (.cons (.v 1) .nil)))) .skip)
    (.skip)) (
  .seq (.iff (.cmp .gt (.len (.v 0)) (.int 0))
    (.seq (.asg 2 (.pur (.ix (.v 0) (.ar .mod (.v 1) (.min2 (.int 63) (.len (.v 0))))))) .skip)
    (.skip)) (
  .seq (.asg 3 (.ar .add (.ar .mod (.v 2) (.ar .pow (.int 10) (.int 18))) (.ar .mul (.int 48271) (.ar .add (.v 1) (.int 1))))) (
  .seq (.asg 3 (.ar .add (.ar .mod (.ar .mul (.v 3) (.v 3)) (.int 2147483629)) (.ar .mul (.int 69621) (.v 1)))) (
  .seq (.ret (.ar .mod (.ar .mul (.v 3) (.v 3)) (.int 2147483587))) .skip))))))
theorem min2_n (a b : Nat) : min2D (.int (a : Int)) (.int (b : Int)) = .ok (.int ((min a b : Nat) : Int)) := by
  show Res.ok (D.int (if (b : Int) < (a : Int) then (b : Int) else (a : Int))) = _
  congr 2
  split <;> omega
/-- a number of the script, whatever its length -/
theorem pick (ns : List Int) (e : E) (i : Nat) {k3 o1 : Option D} {z : Int} (hi : ns.length ≠ 0 → e.sem G [some (.scr ns), o1, some (.int z), k3] = .ok (.int (i : Nat)) ∧ i < ns.length) :
    ∃ y : Int, S.sem G (.iff (.cmp .gt (.len (.v 0)) (.int 0)) (.seq (.asg 2 (.pur (.ix (.v 0) e))) .skip) (.skip)) [some (.scr ns), o1, some (.int z), k3] = .ok (.nx [some (.scr ns), o1, some (.int y), k3]) := by
  by_cases h : ns.length = 0
  · refine ⟨z, ?_⟩
    have : decide ((0 : Int) < (ns.length : Int)) = false := decide_eq_false (by omega)
    simp only [sv_iff, ev_cmp, ev_len, ev_v, ev_int, getE_0, getE_s, Res.ok_bind, ao_lenS, ao_gt, this, iffS_f, sv_skip]
  · obtain ⟨h1, h2⟩ := hi h
    have : decide ((0 : Int) < (ns.length : Int)) = true := decide_eq_true (by omega)
    have hx : ixD (.scr ns) (.int (i : Nat)) = .ok (.int ns[i]) := ix_s (n := i) rfl (List.getElem?_eq_getElem h2)
    refine ⟨ns[i], ?_⟩
    simp only [sv_iff, ev_cmp, ev_len, ev_v, ev_int, getE_0, getE_s, Res.ok_bind, ao_lenS, ao_gt, this, iffS_t, sv_seq, sv_asg, ev_pur, ev_ix, h1, hx, pure_int, if_true, List.set_cons_zero, List.set_cons_succ, then_nx, sv_skip]
theorem mixed_sem {bk : Nat} (ns : List Int) (k : Nat) (hk : k ≤ 100000) (hb : ∃ v : Int, G bk [.scr ns, .int (k : Nat)] = .ok (.int v) ∧ 0 ≤ v ∧ v < 2147483587) : ∃ v : Int, outD ((bMixed bk).sem G [some (.scr ns), some (.int (k : Nat)), none, none]) = .ok (.int v) ∧ 0 ≤ v ∧ v < 2147483587 := by
  have p6 : AOp.int .pow 10 6 = .ok (.int 1000000) := by rw [ao_pow (by decide)]; rfl
  have p18 : AOp.int .pow 10 18 = .ok (.int 1000000000000000000) := by rw [ao_pow (by decide)]; rfl
  have f6 : ∀ z : Int, AOp.int .fdiv z 1000000 = .ok (.int (z / 1000000)) := fun z => ao_fdiv (by decide) (by decide)
  have m2 : ∀ z : Int, AOp.int .mod z 2 = .ok (.int (z % 2)) := fun z => ao_mod (by decide)
  have m18 : ∀ z : Int, AOp.int .mod z 1000000000000000000 = .ok (.int (z % 1000000000000000000)) := fun z => ao_mod (by decide)
  have mp : ∀ z : Int, AOp.int .mod z 2147483629 = .ok (.int (z % 2147483629)) := fun z => ao_mod (by decide)
  have mq : ∀ z : Int, AOp.int .mod z 2147483587 = .ok (.int (z % 2147483587)) := fun z => ao_mod (by decide)
  have u1 : ∀ z : Int, AOp.int .mul 48271 z = .ok (.int (48271 * z)) := fun z => ao_mul_l (by decide)
  have u2 : ∀ z : Int, AOp.int .mul 69621 z = .ok (.int (69621 * z)) := fun z => ao_mul_l (by decide)
  have sq : ∀ z : Int, z.natAbs < 2 ^ 200 → AOp.int .mul z z = .ok (.int (z * z)) := fun z h => ao_mul_b (a := 199) (b := 199) h h (by decide)
  obtain ⟨z, s1⟩ := pick (G := G) ns (.int 0) 0 (k3 := none) (o1 := some (.int (k : Nat))) (z := 0) fun h => ⟨rfl, by omega⟩
  have c1 : E.sem G (.eq (.ar .mod (.ar .fdiv (.v 2) (.ar .pow (.int 10) (.int 6))) (.int 2)) (.int 1)) [some (.scr ns), some (.int (k : Nat)), some (.int z), none] = .ok (.bl (decide (z / 1000000 % 2 = 1))) := by
    simp only [ev_eq, ev_ar, ev_v, ev_int, getE_0, getE_s, Res.ok_bind, ao_int, p6, f6, m2, ao_eqi]
  have hd : (bMixed bk).sem G [some (.scr ns), some (.int (k : Nat)), none, none] = (S.drp 2 (bMixed bk)).sem G [some (.scr ns), some (.int (k : Nat)), some (.int z), none] := by
    refine (asg_to (env' := [some (.scr ns), some (.int (k : Nat)), some (.int 0), none]) (d := .int 0) rfl rfl).trans ?_
    rw [sv_seq, s1, then_nx]; rfl
  rw [hd]
  by_cases hz : z / 1000000 % 2 = 1
  · obtain ⟨v, e, h0, h1⟩ := hb
    refine ⟨v, ?_, h0, h1⟩
    rw [decide_eq_true hz] at c1
    show outD (S.sem G (.seq (.iff (.eq (.ar .mod (.ar .fdiv (.v 2) (.ar .pow (.int 10) (.int 6))) (.int 2)) (.int 1)) _ _) _) _) = _
    rw [sv_seq, sv_iff, c1, iffS_t, sv_seq, sv_ret, call_ev (ds := [.scr ns, .int (k : Nat)]) rfl e]
    rfl
  · rw [decide_eq_false hz] at c1
    obtain ⟨y, s2⟩ := pick (G := G) ns (.ar .mod (.v 1) (.min2 (.int 63) (.len (.v 0)))) (k % min 63 ns.length) (k3 := none) (o1 := some (.int (k : Nat))) (z := z) fun h => by
      have hp : 0 < min 63 ns.length := by omega
      refine ⟨?_, by have := Nat.mod_lt k hp; omega⟩
      have e1 : E.sem G (.min2 (.int 63) (.len (.v 0))) [some (.scr ns), some (.int (k : Nat)), some (.int z), none] = .ok (.int ((min 63 ns.length : Nat) : Int)) := min2_n 63 ns.length
      rw [ev_ar, e1]
      show AOp.int .mod (k : Int) ((min 63 ns.length : Nat) : Int) = _
      rw [ao_mod (by omega)]; rfl
    have g1 : (S.drp 2 (bMixed bk)).sem G [some (.scr ns), some (.int (k : Nat)), some (.int z), none] = (S.drp 4 (bMixed bk)).sem G [some (.scr ns), some (.int (k : Nat)), some (.int y), none] := by
      refine (iff_to c1).trans ?_
      rw [sv_seq, s2, then_nx]; rfl
    rw [g1]
    have b1 : (y % 1000000000000000000 + 48271 * ((k : Int) + 1)).natAbs < 2 ^ 200 := by omega
    have w1 := sq _ b1
    generalize hw : y % 1000000000000000000 + 48271 * ((k : Int) + 1) = w at b1 w1
    have b2 : (w * w % 2147483629 + 69621 * (k : Int)).natAbs < 2 ^ 200 := by omega
    have w2 := sq _ b2
    generalize hx : w * w % 2147483629 + 69621 * (k : Int) = x at b2 w2
    refine ⟨x * x % 2147483587, ?_, Int.emod_nonneg _ (by decide), Int.emod_lt_of_pos _ (by decide)⟩
    refine (congrArg outD (asg_to (env' := [some (.scr ns), some (.int (k : Nat)), some (.int y), some (.int w)]) (d := .int w) ?_ rfl)).trans ((congrArg outD (asg_to (env' := [some (.scr ns), some (.int (k : Nat)), some (.int y), some (.int x)]) (d := .int x) ?_ rfl)).trans ?_)
    · simp only [ev_ar, ev_v, ev_int, getE_0, getE_s, Res.ok_bind, ao_int, p18, m18, ao_add, u1, hw]
    · simp only [ev_ar, ev_v, ev_int, getE_0, getE_s, Res.ok_bind, ao_int, w1, mp, ao_add, u2, hx]
    · rw [sv_seq, sv_ret]
      simp only [ev_ar, ev_v, ev_int, getE_0, getE_s, Res.ok_bind, ao_int, w2, mq]
      rfl
/-! ### who goes off -/
/-- what the hands earn: fractions -/
def frE (q : List Int → Nat → Rat) (n : Nat) (k : List Int) : List D := (List.range n).map fun h => frQ (q k h)
theorem frE_ok {szs : List Nat} (q : List Int → Nat → Rat) : EarnOk szs (frE q szs.length) := fun k _ => ⟨by simp [frE], pureL_map (fun _ => rfl) _⟩
theorem frE_get {q : List Int → Nat → Rat} {n h : Nat} {k : List Int} (hh : h < n) : ixD (.lst (frE q n k)) (.int (h : Nat)) = .ok (frQ (q k h)) := by
  refine ix_l rfl ?_
  unfold frE
  rw [List.getElem?_map, List.getElem?_range hh]; rfl
def stepG (q : List Int → Nat → Rat) (k : List Int) (h : Nat) (st : Rat × Option Nat) (c : Nat) : Rat × Option Nat := if st.1 < q (k.set h (c : Nat)) h then (q (k.set h (c : Nat)) h, some c) else st
def bestG (q : List Int → Nat → Rat) (k : List Int) (h s : Nat) : Rat × Option Nat := (List.range s).foldl (stepG q k h) (q k h, none)
def goOff (q : List Int → Nat → Rat) (k : List Int) : Nat → List Nat → Option (Nat × Nat)
  | i, s :: r => match (bestG q k i s).2 with | some c => some (i, c) | none => goOff q k (i + 1) r
  | _, [] => none
def offD : Option (Nat × Nat) → D
  | none => .non
  | some (h, c) => .tup [.int (h : Nat), .int (c : Nat)]
def optN : Option Nat → D
  | none => .non
  | some c => .int (c : Nat)
abbrev bGoI (er bl jn : Nat) : S := (.seq (.asg 7 (.pur (.ix (.meth er "earned" (.v 0) (.cons (.call jn (.cons (.v 4) (.cons (.v 2) (.cons (.v 6) .nil)))) .nil)) (.v 2)))) (
      .seq (.iff (.call bl (.cons (.v 3) (.cons (.v 7) .nil)))
        (.seq (.asg 3 (.v 7)) (
        .seq (.asg 5 (.v 6)) .skip))
        (.skip)) .skip))
abbrev bGoO (er rs sz bl jn : Nat) : S := (.seq (.asg 4 (.call rs (.cons (.v 1) (.cons (.v 2) .nil)))) (
    .seq (.asg 5 (.non)) (
    .seq (.for_ [6] (.rng (.ix (.meth sz "sizes" (.v 0) (.nil)) (.v 2))) (bGoI er bl jn)) (
    .seq (.iff (.notN (.v 5))
      (.seq (.ret (.tup (.cons (.pur (.v 2)) (.cons (.v 5) .nil)))) .skip)
      (.skip)) .skip))))
abbrev bGo (er rs sz bl jn : Nat) : S :=
  .seq (.for_ [2, 3] (.enum (.meth er "earned" (.v 0) (.cons (.v 1) .nil))) (bGoO er rs sz bl jn)) (
  .seq (.ret (.non)) .skip)
structure GoOk (G : Gam) (er rs sz bl jn : Nat) (szs : List Nat) (q : List Int → Nat → Rat) (k : List Int) : Prop where
  her : ∀ k, okP szs k → G er [tbD szs (frE q szs.length), plD k] = .ok (.lst (frE q szs.length k))
  hrs : ∀ h, h < k.length → G rs [plD k, .int (h : Nat)] = .ok (plD (restP k h))
  hsz : G sz [tbD szs (frE q szs.length)] = .ok (szD szs)
  hjn : ∀ (h : Nat) (c : Int), h < k.length → G jn [plD (restP k h), .int (h : Nat), .int c] = .ok (plD (k.set h c))
  hbl : ∀ x y, Bt 900 x → Bt 900 y → G bl [frQ x, frQ y] = .ok (.bl (decide (x < y)))
  hq : ∀ k h, Bt 900 (q k h)
theorem tb_nofld {szs : List Nat} {f : List Int → List D} : noFld "earned" (tbD szs f) = true ∧ noFld "sizes" (tbD szs f) = true ∧ noFld "plays" (tbD szs f) = true := ⟨rfl, rfl, rfl⟩
theorem go_inner {er rs sz bl jn : Nat} {szs : List Nat} {q : List Int → Nat → Rat} {k : List Int} (g : GoOk G er rs sz bl jn szs q k) (hk : okP szs k) {h s : Nat} (hs : szs[h]? = some s) (o6 o7 : Option D) :
    ∃ o6' o7', forS G [6] (bGoI er bl jn) ((List.range s).map fun c => D.int (c : Nat)) [some (tbD szs (frE q szs.length)), some (plD k), some (.int (h : Nat)), some (frQ (q k h)), some (plD (restP k h)), some .non, o6, o7] =
      .ok (.nx [some (tbD szs (frE q szs.length)), some (plD k), some (.int (h : Nat)), some (frQ (bestG q k h s).1), some (plD (restP k h)), some (optN (bestG q k h s).2), o6', o7']) := by
  have hh : h < szs.length := (List.getElem?_eq_some_iff.mp hs).1
  have hkl := okP_len hk
  obtain ⟨env, he, o6', o7', rfl, _⟩ := forS_rel (G := G) (i := 6) (b := bGoI er bl jn) (c := fun c : Nat => D.int (c : Nat)) (xs := List.range s) (g := stepG q k h) (s := (q k h, none))
    (P := fun st env => ∃ o6 o7, env = [some (tbD szs (frE q szs.length)), some (plD k), some (.int (h : Nat)), some (frQ st.1), some (plD (restP k h)), some (optN st.2), o6, o7] ∧ Bt 900 st.1)
    (env := [some (tbD szs (frE q szs.length)), some (plD k), some (.int (h : Nat)), some (frQ (q k h)), some (plD (restP k h)), some .non, o6, o7]) (by
      rintro st env c hc ⟨o6, o7, rfl, hb⟩
      have hc := List.mem_range.mp hc
      have ok2 : okP szs (k.set h (c : Nat)) := okP_set hk hs (by omega) (by omega)
      have e1 : E.sem G (.call jn (.cons (.v 4) (.cons (.v 2) (.cons (.v 6) .nil)))) [some (tbD szs (frE q szs.length)), some (plD k), some (.int (h : Nat)), some (frQ st.1), some (plD (restP k h)), some (optN st.2), some (.int (c : Nat)), o7] = .ok (plD (k.set h (c : Nat))) :=
        call_ev (ds := [plD (restP k h), .int (h : Nat), .int (c : Nat)]) rfl (g.hjn h c (by omega))
      have p1 : D.pure (frQ (q (k.set h (c : Nat)) h)) = true := rfl
      have e2 : E.sem G (.pur (.ix (.meth er "earned" (.v 0) (.cons (.call jn (.cons (.v 4) (.cons (.v 2) (.cons (.v 6) .nil)))) .nil)) (.v 2))) [some (tbD szs (frE q szs.length)), some (plD k), some (.int (h : Nat)), some (frQ st.1), some (plD (restP k h)), some (optN st.2), some (.int (c : Nat)), o7] = .ok (frQ (q (k.set h (c : Nat)) h)) := by
        rw [ev_pur, ev_ix, ev_meth]
        simp only [ev_v, getE_0, getE_s, Res.ok_bind, tb_nofld.1, if_true, es_cons, es_nil, e1, g.her _ ok2, frE_get hh, p1]
      have e3 : E.sem G (.call bl (.cons (.v 3) (.cons (.v 7) .nil))) [some (tbD szs (frE q szs.length)), some (plD k), some (.int (h : Nat)), some (frQ st.1), some (plD (restP k h)), some (optN st.2), some (.int (c : Nat)), some (frQ (q (k.set h (c : Nat)) h))] = .ok (.bl (decide (st.1 < q (k.set h (c : Nat)) h))) :=
        call_ev (ds := [frQ st.1, frQ (q (k.set h (c : Nat)) h)]) rfl (g.hbl _ _ hb (g.hq _ _))
      unfold stepG
      by_cases z : st.1 < q (k.set h (c : Nat)) h
      · rw [if_pos z]
        rw [decide_eq_true z] at e3
        refine ⟨[some (tbD szs (frE q szs.length)), some (plD k), some (.int (h : Nat)), some (frQ (q (k.set h (c : Nat)) h)), some (plD (restP k h)), some (.int (c : Nat)), some (.int (c : Nat)), some (frQ (q (k.set h (c : Nat)) h))], ?_, _, _, rfl, g.hq _ _⟩
        refine (asg_to e2 rfl).trans ?_
        show S.sem G (.seq (.iff (.call bl (.cons (.v 3) (.cons (.v 7) .nil))) _ _) _) [some (tbD szs (frE q szs.length)), some (plD k), some (.int (h : Nat)), some (frQ st.1), some (plD (restP k h)), some (optN st.2), some (.int (c : Nat)), some (frQ (q (k.set h (c : Nat)) h))] = _
        rw [sv_seq, sv_iff, e3]
        rfl
      · rw [if_neg z]
        rw [decide_eq_false z] at e3
        refine ⟨_, ?_, some (.int (c : Nat)), some (frQ (q (k.set h (c : Nat)) h)), rfl, hb⟩
        refine (asg_to e2 rfl).trans ((iff_to e3).trans rfl)) ⟨o6, o7, rfl, g.hq _ _⟩
  exact ⟨o6', o7', he⟩
theorem go_outer {er rs sz bl jn : Nat} {szs : List Nat} {q : List Int → Nat → Rat} {k : List Int} (h6 : ∀ s ∈ szs, s ≤ 1000) (g : GoOk G er rs sz bl jn szs q k) (hk : okP szs k) : ∀ (l : List Nat) (i : Nat) (o2 o3 o4 o5 o6 o7 : Option D), (∀ j, szs[i + j]? = l[j]?) →
    (goOff q k i l = none → ∃ env', forS G [2, 3] (bGoO er rs sz bl jn) ((List.range' i l.length).map fun h => D.tup [.int (h : Nat), frQ (q k h)]) [some (tbD szs (frE q szs.length)), some (plD k), o2, o3, o4, o5, o6, o7] = .ok (.nx env')) ∧
    (∀ p, goOff q k i l = some p → forS G [2, 3] (bGoO er rs sz bl jn) ((List.range' i l.length).map fun h => D.tup [.int (h : Nat), frQ (q k h)]) [some (tbD szs (frE q szs.length)), some (plD k), o2, o3, o4, o5, o6, o7] = .ok (.rt (offD (some p))))
  | [], i, o2, o3, o4, o5, o6, o7, _ => ⟨fun _ => ⟨_, rfl⟩, fun p z => (by cases z)⟩
  | s :: l, i, o2, o3, o4, o5, o6, o7, hl => by
    have hs : szs[i]? = some s := by have := hl 0; simpa using this
    have hi : i < szs.length := (List.getElem?_eq_some_iff.mp hs).1
    have hkl := okP_len hk
    obtain ⟨o6', o7', he⟩ := go_inner g hk hs o6 o7
    have e1 : E.sem G (.call rs (.cons (.v 1) (.cons (.v 2) .nil))) [some (tbD szs (frE q szs.length)), some (plD k), some (.int (i : Nat)), some (frQ (q k i)), o4, o5, o6, o7] = .ok (plD (restP k i)) := call_ev (ds := [plD k, .int (i : Nat)]) rfl (g.hrs i (by omega))
    have ixs : ixD (szD szs) (.int (i : Nat)) = .ok (.int (s : Nat)) := ix_l rfl (by rw [List.getElem?_map, hs]; rfl)
    have r1 : It.sem G (.rng (.ix (.meth sz "sizes" (.v 0) (.nil)) (.v 2))) [some (tbD szs (frE q szs.length)), some (plD k), some (.int (i : Nat)), some (frQ (q k i)), some (plD (restP k i)), some .non, o6, o7] = .ok ((List.range s).map fun c => D.int (c : Nat)) := by
      refine et_rngN ?_ (by have := h6 s (List.mem_of_getElem? hs); omega)
      simp only [ev_ix, ev_meth, ev_v, getE_0, getE_s, Res.ok_bind, tb_nofld.2.1, if_true, es_nil, g.hsz, ixs]
    have st : S.sem G (bGoO er rs sz bl jn) [some (tbD szs (frE q szs.length)), some (plD k), some (.int (i : Nat)), some (frQ (q k i)), o4, o5, o6, o7] = S.sem G (.seq (.iff (.notN (.v 5)) (.seq (.ret (.tup (.cons (.pur (.v 2)) (.cons (.v 5) .nil)))) .skip) (.skip)) .skip)
        [some (tbD szs (frE q szs.length)), some (plD k), some (.int (i : Nat)), some (frQ (bestG q k i s).1), some (plD (restP k i)), some (optN (bestG q k i s).2), o6', o7'] := by
      refine (asg_to (env' := [some (tbD szs (frE q szs.length)), some (plD k), some (.int (i : Nat)), some (frQ (q k i)), some (plD (restP k i)), o5, o6, o7]) e1 rfl).trans ?_
      refine (asg_to (env' := [some (tbD szs (frE q szs.length)), some (plD k), some (.int (i : Nat)), some (frQ (q k i)), some (plD (restP k i)), some .non, o6, o7]) (d := .non) rfl rfl).trans ?_
      rw [sv_seq, sv_for, r1, Res.ok_bind, he, then_nx]
    rw [List.length_cons, List.range'_succ, List.map_cons, forS_two]
    have st' : S.sem G (bGoO er rs sz bl jn) (([some (tbD szs (frE q szs.length)), some (plD k), o2, o3, o4, o5, o6, o7].set 2 (some (D.int (i : Nat)))).set 3 (some (frQ (q k i)))) = _ := st
    rw [st']
    unfold goOff
    cases hb : (bestG q k i s).2 with
    | some c =>
      refine ⟨fun z => (by cases z), fun p z => ?_⟩
      cases z
      rfl
    | none =>
      have nf : S.sem G (.seq (.iff (.notN (.v 5)) (.seq (.ret (.tup (.cons (.pur (.v 2)) (.cons (.v 5) .nil)))) .skip) (.skip)) .skip)
        [some (tbD szs (frE q szs.length)), some (plD k), some (.int (i : Nat)), some (frQ (bestG q k i s).1), some (plD (restP k i)), some (optN none), o6', o7'] = .ok (.nx [some (tbD szs (frE q szs.length)), some (plD k), some (.int (i : Nat)), some (frQ (bestG q k i s).1), some (plD (restP k i)), some (optN none), o6', o7']) := rfl
      rw [nf, then_nx]
      exact go_outer h6 g hk l (i + 1) _ _ _ _ _ _ (fun j => by have := hl (j + 1); rw [Nat.add_assoc, Nat.add_comm 1 j, this]; rfl)
theorem zipIdx_map_range {α : Type} (f : Nat → α) (n : Nat) : ((List.range n).map f).zipIdx = (List.range n).map fun i => (f i, i) := by
  refine List.ext_getElem? fun i => ?_
  rw [List.getElem?_zipIdx, List.getElem?_map, List.getElem?_map]
  by_cases h : i < n
  · rw [List.getElem?_range h]; simp
  · rw [List.getElem?_eq_none (by rw [List.length_range]; omega)]; rfl
theorem go_sem {er rs sz bl jn : Nat} {szs : List Nat} {q : List Int → Nat → Rat} {k : List Int} (h6 : ∀ s ∈ szs, s ≤ 1000) (g : GoOk G er rs sz bl jn szs q k) (hk : okP szs k) :
    outD ((bGo er rs sz bl jn).sem G [some (tbD szs (frE q szs.length)), some (plD k), none, none, none, none, none, none]) = .ok (offD (goOff q k 0 szs)) := by
  have r1 : It.sem G (.enum (.meth er "earned" (.v 0) (.cons (.v 1) .nil))) [some (tbD szs (frE q szs.length)), some (plD k), none, none, none, none, none, none] = .ok ((List.range' 0 szs.length).map fun h => D.tup [.int (h : Nat), frQ (q k h)]) := by
    simp only [et_enum, ev_meth, ev_v, getE_0, getE_s, Res.ok_bind, tb_nofld.1, if_true, es_cons, es_nil, g.her k hk]
    unfold frE
    rw [zipIdx_map_range, List.map_map, ← List.range_eq_range']
    rfl
  obtain ⟨g1, g2⟩ := go_outer h6 g hk szs 0 none none none none none none (fun j => by rw [Nat.zero_add])
  rw [sv_seq, sv_for, r1, Res.ok_bind]
  cases e : goOff q k 0 szs with
  | none =>
    obtain ⟨env', h⟩ := g1 e
    rw [h]; rfl
  | some p => rw [g2 p e]; rfl
end
end Tr

/-! Plain rows for tables: dicts that are filled play by play. -/
namespace Tr
open PySem PySem.Spec PyProof.Rows L2
section
variable {G : Gam} {env : Env} {β : Type}
theorem zip_snoc {α : Type} : ∀ {l : List α} {rows : List β} {r : β} {x : α}, l[rows.length]? = some x → l.zip (rows ++ [r]) = l.zip rows ++ [(x, r)]
  | [], rows, r, x, h => by simp at h
  | a :: l, [], r, x, h => by
    have : a = x := by simpa using h
    subst this; simp
  | a :: l, b :: rows, r, x, h => by
    rw [List.cons_append, List.zip_cons_cons, zip_snoc (by simpa using h), List.zip_cons_cons]; rfl
/-- a dict that is filled in the plays' order -/
theorem dict_loop [Inhabited β] {i : Nat} {b : S} {szs : List Nat} {c : β → D} {good : Nat → β → Prop} {Q : List (List Int × D) → Env → Prop}
    (step : ∀ j, j < prodN szs → ∀ kvs env, kvs.length = j → Q kvs env → ∃ r, good j r ∧ ∃ env', b.sem G (env.set i (some (.int (j : Nat)))) = .ok (.nx env') ∧ Q (putD kvs (dig szs j) (c r)) env') (h0 : Q [] env) :
    ∃ u : List Int → β, (∀ j, j < prodN szs → good j (u (dig szs j))) ∧ ∃ env', forS G [i] b ((List.range (prodN szs)).map fun j => D.int (j : Nat)) env = .ok (.nx env') ∧ Q ((ordN szs).map fun k => (k, c (u k))) env' := by
  have key : ∀ n, n ≤ prodN szs → ∃ rows : List β, rows.length = n ∧ (∀ j r, rows[j]? = some r → good j r) ∧ ∃ env', forS G [i] b ((List.range n).map fun j => D.int (j : Nat)) env = .ok (.nx env') ∧ Q (((ordN szs).zip rows).map fun p => (p.1, c p.2)) env' := by
    intro n
    induction n with
    | zero => exact fun _ => ⟨[], rfl, fun j r e => (by simp at e), env, rfl, by simpa using h0⟩
    | succ n ih =>
      intro hn
      obtain ⟨rows, hl, hg, env1, e1, q1⟩ := ih (by omega)
      obtain ⟨r, hr, env2, e2, q2⟩ := step n (by omega) _ _ (by rw [List.length_map, List.length_zip, ord_len]; omega) q1
      have hx : (ordN szs)[rows.length]? = some (dig szs n) := by rw [hl]; exact ord_get (by omega)
      refine ⟨rows ++ [r], by simp [hl], fun j r' e => ?_, env2, ?_, ?_⟩
      · by_cases hj : j < rows.length
        · rw [List.getElem?_append_left hj] at e; exact hg j r' e
        · rw [List.getElem?_append_right (by omega)] at e
          have : j - rows.length = 0 := by
            have := (List.getElem?_eq_some_iff.mp e).1
            simp at this; omega
          rw [this] at e
          cases e
          rw [show j = n by omega]; exact hr
      · have app : ∀ (xs ys : List D) (env : Env), forS G [i] b (xs ++ ys) env = Out.andThen (forS G [i] b xs env) (forS G [i] b ys) := by
          intro xs ys
          induction xs with
          | nil => exact fun env => rfl
          | cons x xs ihx =>
            intro env
            rw [List.cons_append, forS_one, forS_one]
            cases h : b.sem G (env.set i (some x)) with
            | ok o => cases o with
              | nx env' => rw [then_nx, then_nx, ihx]
              | rt d => rfl
            | exc _ _ => rfl
            | stuck => rfl
        rw [List.range_succ, List.map_append, app, e1, then_nx]
        show forS G [i] b [D.int (n : Nat)] env1 = _
        rw [forS_one, e2, then_nx]; rfl
      · rw [zip_snoc hx, List.map_append]
        rw [put_new] at q2
        · exact q2
        · intro kv hkv e
          obtain ⟨p, hp, rfl⟩ := List.mem_map.mp hkv
          obtain ⟨j, hj, ej⟩ := List.mem_iff_getElem.mp hp
          have e : p.1 = dig szs n := e
          rw [List.length_zip] at hj
          have ej' : p = ((ordN szs)[j], rows[j]) := by rw [← ej, List.getElem_zip]
          rw [ej'] at e
          have hjo : (ordN szs)[j]? = some (dig szs n) := by rw [List.getElem?_eq_getElem (by omega)]; exact congrArg some e
          have hjn : j < n := by omega
          rw [ord_get (by omega)] at hjo
          have := congrArg (valP szs) (Option.some.inj hjo)
          rw [valP_dig, valP_dig, Nat.mod_eq_of_lt (by omega), Nat.mod_eq_of_lt (by omega)] at this
          omega
  obtain ⟨rows, hl, hg, env', e, q⟩ := key _ (Nat.le_refl _)
  refine ⟨fun k => rows.getD (valP szs k) default, fun j hj => ?_, env', e, ?_⟩
  · have hv : valP szs (dig szs j) = j := by rw [valP_dig, Nat.mod_eq_of_lt hj]
    show good j (rows.getD (valP szs (dig szs j)) default)
    rw [hv, List.getD_eq_getElem?_getD, List.getElem?_eq_getElem (by omega)]
    exact hg j _ (List.getElem?_eq_getElem (by omega))
  · have : ((ordN szs).zip rows).map (fun p => (p.1, c p.2)) = (ordN szs).map fun k => (k, c (rows.getD (valP szs k) default)) := by
      refine List.ext_getElem? fun j => ?_
      rw [List.getElem?_map, List.getElem?_map]
      by_cases hj : j < prodN szs
      · have h2 : rows[j]? = some rows[j] := List.getElem?_eq_getElem (by omega)
        rw [ord_get hj, List.getElem?_zip_eq_some (z := (dig szs j, rows[j])).mpr ⟨ord_get hj, h2⟩]
        have hv : valP szs (dig szs j) = j := by rw [valP_dig, Nat.mod_eq_of_lt hj]
        show some (dig szs j, c rows[j]) = some (dig szs j, c (rows.getD (valP szs (dig szs j)) default))
        rw [hv, List.getD_eq_getElem?_getD, h2]; rfl
      · rw [List.getElem?_eq_none (by rw [List.length_zip, ord_len]; omega), List.getElem?_eq_none (by rw [ord_len]; omega)]; rfl
    rw [← this]; exact q
/-- a dict that is filled along a list of plays -/
theorem dict_walk {i : Nat} {b : S} {c : List Int → D} {Q : List (List Int × D) → Env → Prop} : ∀ {ks : List (List Int)} {kvs : List (List Int × D)} {env : Env},
    (∀ k ∈ ks, ∀ kvs env, kvs.length < line → Q kvs env → ∃ env', b.sem G (env.set i (some (plD k))) = .ok (.nx env') ∧ Q (putD kvs k (c k)) env') → ks.Nodup → (∀ k ∈ ks, ∀ kv ∈ kvs, kv.1 ≠ k) → kvs.length + ks.length ≤ line → Q kvs env →
    ∃ env', forS G [i] b (ks.map plD) env = .ok (.nx env') ∧ Q (kvs ++ ks.map fun k => (k, c k)) env'
  | [], kvs, env, _, _, _, _, h => ⟨env, rfl, by simpa using h⟩
  | k :: ks, kvs, env, step, hn, hd, hL, h => by
    rw [List.length_cons] at hL
    obtain ⟨env1, e1, q1⟩ := step k List.mem_cons_self kvs env (by omega) h
    rw [put_new (hd k List.mem_cons_self)] at q1
    obtain ⟨env2, e2, q2⟩ := dict_walk (ks := ks) (fun k hk => step k (List.mem_cons_of_mem _ hk)) (List.nodup_cons.mp hn).2 (fun k' hk' kv hkv => by
      rcases List.mem_append.mp hkv with z | z
      · exact hd k' (List.mem_cons_of_mem _ hk') kv z
      · cases List.mem_singleton.mp z
        exact fun e => (List.nodup_cons.mp hn).1 (by rw [show k = k' from e]; exact hk')) (by rw [List.length_append, List.length_singleton]; omega) q1
    refine ⟨env2, by rw [List.map_cons, forS_one, e1, then_nx, e2], ?_⟩
    rw [List.map_cons, List.append_cons]
    exact q2
/-- .. backwards -/
theorem cells_rev {szs : List Nat} {f : List Int → List D} : CellsOk szs f ((ordN szs).reverse.map fun k => (k, .lst (f k))) :=
  ⟨by rw [List.length_map, List.length_reverse, ord_len], fun k hk => find_map (fun k => .lst (f k)) (List.mem_reverse.mpr hk)⟩
theorem cells_ord {szs : List Nat} {f : List Int → List D} : CellsOk szs f ((ordN szs).map fun k => (k, .lst (f k))) :=
  ⟨by rw [List.length_map, ord_len], fun k hk => find_map (fun k => .lst (f k)) hk⟩
theorem dput_ok {kvs : List (List Int × D)} {k : List Int} {d : D} (h : kvs.length < line) : dputD (plD k) d (.dic kvs) = .ok (.dic (putD kvs k d)) := by
  unfold dputD
  simp only [key_pl]
  rw [if_pos h]
theorem put_len (kvs : List (List Int × D)) (k : List Int) (d : D) : (putD kvs k d).length ≤ kvs.length + 1 := by
  unfold putD
  split
  · rw [List.length_map]; omega
  · rw [List.length_append]; exact Nat.le_refl _
theorem divInt_lt {a b c : Int} (hc : 0 < c) : Rat.divInt a c < Rat.divInt b c ↔ a < b := by
  obtain ⟨g1, n1, e1, f1, h1⟩ := divInt_of a (show c ≠ 0 by omega)
  obtain ⟨g2, n2, e2, f2, h2⟩ := divInt_of b (show c ≠ 0 by omega)
  rw [if_neg (by omega)] at e1 e2
  have p1 : 0 < g1 := by omega
  have p2 : 0 < g2 := by omega
  rw [Rat.lt_iff]
  generalize Rat.divInt a c = x at *
  generalize Rat.divInt b c = y at *
  have k1 : (g1 * g2) * (x.num * (y.den : Int)) = a * c := by
    calc (g1 * g2) * (x.num * (y.den : Int)) = (g1 * x.num) * (g2 * (y.den : Int)) := by grind
      _ = a * c := by rw [← f1, ← h2]
  have k2 : (g1 * g2) * (y.num * (x.den : Int)) = b * c := by
    calc (g1 * g2) * (y.num * (x.den : Int)) = (g2 * y.num) * (g1 * (x.den : Int)) := by grind
      _ = b * c := by rw [← f2, ← h1]
  have pg : 0 < g1 * g2 := Int.mul_pos p1 p2
  constructor
  · intro h
    have := Int.mul_lt_mul_of_pos_left h pg
    rw [k1, k2] at this
    exact Int.lt_of_mul_lt_mul_right this (by omega)
  · intro h
    have := Int.mul_lt_mul_of_pos_right h hc
    rw [← k1, ← k2] at this
    exact Int.lt_of_mul_lt_mul_left this (by omega)
theorem map_getD {γ : Type} (g : Int → γ) : ∀ xs : List Int, xs.map g = (List.range xs.length).map fun h => g (xs.getD h 0) := fun xs => by
  refine List.ext_getElem? fun i => ?_
  rw [List.getElem?_map, List.getElem?_map]
  by_cases h : i < xs.length
  · rw [List.getElem?_range h, List.getElem?_eq_getElem h]
    simp [h]
  · rw [List.getElem?_eq_none (by omega), List.getElem?_eq_none (by rw [List.length_range]; omega)]; rfl
/-! ### the greatest, and its place -/
theorem maxOf_spec2 : ∀ {xs : List Int}, xs ≠ [] → ∃ m, maxOf xs = some m ∧ m ∈ xs ∧ ∀ x ∈ xs, x ≤ m
  | [], h => absurd rfl h
  | x :: r, _ => by
    by_cases hr : r = []
    · subst hr
      exact ⟨x, rfl, List.mem_cons_self, fun y hy => by cases List.mem_singleton.mp hy; omega⟩
    · obtain ⟨m, e, h1, h2⟩ := maxOf_spec2 hr
      refine ⟨if x < m then m else x, ?_, ?_, fun y hy => ?_⟩
      · show (match maxOf r with | none => some x | some y => some (if x < y then y else x)) = _
        rw [e]
      · split
        · exact List.mem_cons_of_mem _ h1
        · exact List.mem_cons_self
      · rcases List.mem_cons.mp hy with rfl | hy
        · split <;> omega
        · have := h2 y hy
          split <;> omega
def stepI (x : Nat → Int) (st : Int × Option Nat) (c : Nat) : Int × Option Nat := if st.1 < x c then (x c, some c) else st
theorem best_spec (x : Nat → Int) (m0 : Int) : ∀ s : Nat, (((List.range s).foldl (stepI x) (m0, none)) = (m0, none) ∧ ∀ c < s, x c ≤ m0) ∨
    (∃ M c, ((List.range s).foldl (stepI x) (m0, none)) = (M, some c) ∧ m0 < M ∧ c < s ∧ x c = M ∧ (∀ d < s, x d ≤ M) ∧ ∀ d < c, x d ≠ M)
  | 0 => .inl ⟨rfl, fun c h => (by omega)⟩
  | s + 1 => by
    rw [List.range_succ, List.foldl_append]
    rcases best_spec x m0 s with ⟨e, h⟩ | ⟨M, c, e, h0, hc, hM, hle, hne⟩
    · rw [e]
      show (stepI x (m0, none) s = _ ∧ _) ∨ ∃ M c, stepI x (m0, none) s = _ ∧ _
      unfold stepI
      by_cases z : m0 < x s
      · rw [if_pos z]
        refine .inr ⟨x s, s, rfl, z, by omega, rfl, fun d hd => ?_, fun d hd => ?_⟩
        · by_cases q : d = s
          · subst q; omega
          · have := h d (by omega); omega
        · have := h d hd; omega
      · rw [if_neg z]
        refine .inl ⟨rfl, fun c hc => ?_⟩
        by_cases q : c = s
        · subst q; omega
        · exact h c (by omega)
    · rw [e]
      show (stepI x (M, some c) s = _ ∧ _) ∨ ∃ M' c', stepI x (M, some c) s = _ ∧ _
      unfold stepI
      by_cases z : M < x s
      · rw [if_pos z]
        refine .inr ⟨x s, s, rfl, by omega, by omega, rfl, fun d hd => ?_, fun d hd => ?_⟩
        · by_cases q : d = s
          · subst q; omega
          · have := hle d (by omega); omega
        · have := hle d hd; omega
      · rw [if_neg z]
        refine .inr ⟨M, c, rfl, h0, by omega, hM, fun d hd => ?_, hne⟩
        by_cases q : d = s
        · subst q; omega
        · exact hle d (by omega)
theorem idx_of {x : Nat → Int} {s c : Nat} (hc : c < s) (hne : ∀ d < c, x d ≠ x c) : ((List.range s).map x).idxOf (x c) = c := by
  have hl : c < ((List.range s).map x).length := by simpa using hc
  have hg : ((List.range s).map x)[c] = x c := by simp
  have hlt : ((List.range s).map x).idxOf (x c) < ((List.range s).map x).length := List.idxOf_lt_length_of_mem (by rw [← hg]; exact List.getElem_mem hl)
  have e := List.getElem_idxOf hlt
  have e2 : x (((List.range s).map x).idxOf (x c)) = x c := by rw [List.getElem_map, List.getElem_range] at e; exact e
  have ge : ¬ ((List.range s).map x).idxOf (x c) < c := fun z => hne _ z e2
  have le : ¬ c < ((List.range s).map x).idxOf (x c) := fun z => by
    have := List.not_of_lt_findIdx (p := (· == x c)) (xs := (List.range s).map x) (i := c) z
    simp at this
  omega
end
end Tr

/-! Plain rows for tables: dicts filled in any order; who stays. -/
namespace Tr
open PySem PySem.Spec PyProof.Rows L2
section
variable {G : Gam} {env : Env} {α : Type}
/-- a dict that is filled along any list, each turn at a new play -/
theorem dict_walkG {i : Nat} {b : S} {c v : α → D} {key : α → List Int} {Q : List (List Int × D) → Env → Prop} : ∀ {xs : List α} {kvs : List (List Int × D)} {env : Env},
    (∀ x ∈ xs, ∀ kvs env, kvs.length < line → Q kvs env → ∃ env', b.sem G (env.set i (some (c x))) = .ok (.nx env') ∧ Q (putD kvs (key x) (v x)) env') → (xs.map key).Nodup → (∀ x ∈ xs, ∀ kv ∈ kvs, kv.1 ≠ key x) → kvs.length + xs.length ≤ line → Q kvs env →
    ∃ env', forS G [i] b (xs.map c) env = .ok (.nx env') ∧ Q (kvs ++ xs.map fun x => (key x, v x)) env'
  | [], kvs, env, _, _, _, _, h => ⟨env, rfl, by simpa using h⟩
  | x :: xs, kvs, env, step, hn, hd, hL, h => by
    rw [List.length_cons] at hL
    rw [List.map_cons] at hn
    obtain ⟨env1, e1, q1⟩ := step x List.mem_cons_self kvs env (by omega) h
    rw [put_new (hd x List.mem_cons_self)] at q1
    obtain ⟨env2, e2, q2⟩ := dict_walkG (xs := xs) (fun k hk => step k (List.mem_cons_of_mem _ hk)) (List.nodup_cons.mp hn).2 (fun k' hk' kv hkv => by
      rcases List.mem_append.mp hkv with z | z
      · exact hd k' (List.mem_cons_of_mem _ hk') kv z
      · cases List.mem_singleton.mp z
        exact fun e => (List.nodup_cons.mp hn).1 (by rw [show key x = key k' from e]; exact List.mem_map_of_mem hk')) (by rw [List.length_append, List.length_singleton]; omega) q1
    refine ⟨env2, by rw [List.map_cons, forS_one, e1, then_nx, e2], ?_⟩
    rw [List.map_cons, List.append_cons]
    exact q2
/-- the plays from a drawn one backwards -/
def backK (szs : List Nat) (st : Nat) (j : Nat) : List Int := dig szs ((((st : Int) - (j : Int)) % (prodN szs : Int)).toNat)
theorem back_lt {szs : List Nat} (hp : 0 < prodN szs) (st j : Nat) : ((((st : Int) - (j : Int)) % (prodN szs : Int)).toNat) < prodN szs := by
  have a := Int.emod_nonneg ((st : Int) - (j : Int)) (show (prodN szs : Int) ≠ 0 by omega)
  have b := Int.emod_lt_of_pos ((st : Int) - (j : Int)) (show (0 : Int) < (prodN szs : Int) by omega)
  omega
theorem back_nodup {szs : List Nat} (hp : 0 < prodN szs) (st : Nat) : ((List.range (prodN szs)).map (backK szs st)).Nodup := by
  unfold List.Nodup
  rw [List.pairwise_map]
  refine List.Pairwise.imp_of_mem ?_ (List.pairwise_lt_range (n := prodN szs))
  intro a b ha hb hlt e
  have ha := List.mem_range.mp ha
  have hb := List.mem_range.mp hb
  have := congrArg (valP szs) e
  unfold backK at this
  rw [valP_dig, valP_dig, Nat.mod_eq_of_lt (back_lt hp st a), Nat.mod_eq_of_lt (back_lt hp st b)] at this
  have na := Int.emod_nonneg ((st : Int) - (a : Int)) (show (prodN szs : Int) ≠ 0 by omega)
  have nb := Int.emod_nonneg ((st : Int) - (b : Int)) (show (prodN szs : Int) ≠ 0 by omega)
  have e2 : ((st : Int) - (a : Int)) % (prodN szs : Int) = ((st : Int) - (b : Int)) % (prodN szs : Int) := by omega
  have d := Int.emod_emod_of_dvd
  have e3 : (((st : Int) - (a : Int)) - ((st : Int) - (b : Int))) % (prodN szs : Int) = 0 := Int.emod_eq_emod_iff_emod_sub_eq_zero.mp e2
  have e4 : ((st : Int) - (a : Int)) - ((st : Int) - (b : Int)) = ((b - a : Nat) : Int) := by omega
  rw [e4, Int.emod_eq_of_lt (by omega) (by omega)] at e3
  omega
theorem back_mem {szs : List Nat} (hp : 0 < prodN szs) (st : Nat) {k : List Int} (hk : k ∈ ordN szs) : k ∈ (List.range (prodN szs)).map (backK szs st) := by
  obtain ⟨n, hn, rfl⟩ := List.mem_map.mp hk
  have hn := List.mem_range.mp hn
  refine List.mem_map.mpr ⟨(((st : Int) - (n : Int)) % (prodN szs : Int)).toNat, List.mem_range.mpr (back_lt hp st n), ?_⟩
  unfold backK
  have a := Int.emod_nonneg ((st : Int) - (n : Int)) (show (prodN szs : Int) ≠ 0 by omega)
  rw [Int.toNat_of_nonneg a]
  have e : ((st : Int) - ((st : Int) - (n : Int)) % (prodN szs : Int)) % (prodN szs : Int) = (n : Int) := by
    rw [Int.sub_emod, Int.emod_emod_of_dvd _ (Int.dvd_refl _), ← Int.sub_emod]
    have : (st : Int) - ((st : Int) - (n : Int)) = (n : Int) := by omega
    rw [this, Int.emod_eq_of_lt (by omega) (by omega)]
  rw [e, Int.toNat_natCast]
theorem cells_back {szs : List Nat} (hp : 0 < prodN szs) (st : Nat) {f : List Int → List D} : CellsOk szs f ((List.range (prodN szs)).map fun j => (backK szs st j, .lst (f (backK szs st j)))) := by
  have e : ((List.range (prodN szs)).map fun j => (backK szs st j, D.lst (f (backK szs st j)))) = ((List.range (prodN szs)).map (backK szs st)).map fun k => (k, .lst (f k)) := by
    rw [List.map_map]; rfl
  rw [e]
  exact ⟨by rw [List.length_map, List.length_map, List.length_range], fun k hk => find_map (fun k => .lst (f k)) (back_mem hp st hk)⟩
/-! ### who stays -/
/-- the same by whole numbers -/
def dueOff (u : List Int → List Int) (k : List Int) : Nat → List Nat → Option (Nat × Nat)
  | i, s :: r => match ((List.range s).foldl (Tr.stepI fun c => (u (k.set i (c : Nat))).getD i 0) ((u k).getD i 0, none)).2 with | some c => some (i, c) | none => dueOff u k (i + 1) r
  | _, [] => none
theorem best_same (u : List Int → List Int) (sc : Int) (hs : 0 < sc) (k : List Int) (i : Nat) : ∀ (l : List Nat) (a : Int) (o : Option Nat),
    l.foldl (stepG (fun k h => Rat.divInt ((u k).getD h 0) sc) k i) (Rat.divInt a sc, o) = (Rat.divInt (l.foldl (Tr.stepI fun c => (u (k.set i (c : Nat))).getD i 0) (a, o)).1 sc, (l.foldl (Tr.stepI fun c => (u (k.set i (c : Nat))).getD i 0) (a, o)).2)
  | [], a, o => rfl
  | c :: l, a, o => by
    rw [List.foldl_cons, List.foldl_cons]
    unfold stepG Tr.stepI
    simp only
    by_cases z : a < (u (k.set i (c : Nat))).getD i 0
    · rw [if_pos ((divInt_lt hs).mpr z), if_pos z]
      exact best_same u sc hs k i l _ _
    · rw [if_neg (fun q => z ((divInt_lt hs).mp q)), if_neg z]
      exact best_same u sc hs k i l _ _
theorem off_same (u : List Int → List Int) (sc : Int) (hs : 0 < sc) (k : List Int) : ∀ (l : List Nat) (i : Nat), goOff (fun k h => Rat.divInt ((u k).getD h 0) sc) k i l = dueOff u k i l
  | [], i => rfl
  | s :: l, i => by
    unfold goOff dueOff bestG
    rw [best_same u sc hs k i]
    simp only
    cases ((List.range s).foldl (Tr.stepI fun c => (u (k.set i (c : Nat))).getD i 0) ((u k).getD i 0, none)).2 with
    | some c => rfl
    | none => exact off_same u sc hs k l (i + 1)
def staysB (u : List Int → List Int) (k : List Int) : Nat → List Nat → Bool
  | i, s :: r => (List.range s).all (fun c => !decide ((u k).getD i 0 < (u (k.set i (c : Nat))).getD i 0)) && staysB u k (i + 1) r
  | _, [] => true
theorem stays_off (u : List Int → List Int) (k : List Int) : ∀ (l : List Nat) (i : Nat), (dueOff u k i l).isNone = staysB u k i l
  | [], i => rfl
  | s :: l, i => by
    unfold dueOff staysB
    rcases best_spec (fun c => (u (k.set i (c : Nat))).getD i 0) ((u k).getD i 0) s with ⟨e, hle⟩ | ⟨M, c, e, h0, hc, hM, _, _⟩
    · rw [e]
      have : (List.range s).all (fun c => !decide ((u k).getD i 0 < (u (k.set i (c : Nat))).getD i 0)) = true := by
        rw [List.all_eq_true]
        intro c hc
        have := hle c (List.mem_range.mp hc)
        rw [decide_eq_false (by omega)]; rfl
      rw [this, Bool.true_and]
      exact stays_off u k l (i + 1)
    · rw [e]
      have : (List.range s).all (fun c => !decide ((u k).getD i 0 < (u (k.set i (c : Nat))).getD i 0)) = false := by
        rw [List.all_eq_false]
        refine ⟨c, List.mem_range.mpr hc, ?_⟩
        have hM : (u (k.set i (c : Nat))).getD i 0 = M := hM
        rw [hM, decide_eq_true h0]; decide
      rw [this]; rfl
abbrev inL (l : List Int) : D := .lst (l.map D.int)
abbrev dicD (szs : List Nat) (u : List Int → List Int) : D := .dic ((ordN szs).map fun k => (k, inL (u k)))
/-- what the laws draw: a row for each play -/
def RowOk (n : Nat) (row : List Int) : Prop := row.length = n ∧ ∀ z ∈ row, z.natAbs < 2 ^ 250
theorem get_row {n : Nat} {row : List Int} (h : row.length = n) {i : Nat} (hi : i < n) : ixD (inL row) (.int (i : Nat)) = .ok (.int (row.getD i 0)) := by
  refine ix_l rfl ?_
  rw [List.getElem?_map, List.getElem?_eq_getElem (by omega), List.getD_eq_getElem?_getD, List.getElem?_eq_getElem (by omega)]; rfl
theorem set_split {k : List Int} {h : Nat} (hh : h < k.length) (c : Int) : k.take h ++ [c] ++ k.drop (h + 1) = k.set h c := by
  rw [List.append_assoc, List.set_eq_take_append_cons_drop, if_pos hh]; rfl
theorem cells_eq {u : List Int → List Int} {sc : Int} {n : Nat} {k : List Int} (h : (u k).length = n) : (u k).map (fun t => frQ (Rat.divInt t sc)) = frE (fun k h => Rat.divInt ((u k).getD h 0) sc) n k := by
  unfold frE
  rw [Tr.map_getD, h]
/-- play[:h] + (c,) + play[h + 1:] -/
theorem put_ev {k : List Int} {h : Nat} {c : Int} {a b d : E} (hh : h < k.length) (hl : k.length ≤ 900) (e1 : E.sem G a env = .ok (plD k)) (e2 : E.sem G b env = .ok (.int (h : Nat))) (e3 : E.sem G d env = .ok (.int c)) :
    E.sem G (.catT (.catT (.slT a .no (.yes b)) (.tup (.cons d .nil))) (.slT a (.yes (.ar .add b (.int 1))) .no)) env = .ok (plD (k.set h c)) := by
  have l1 : [D.int c].length ≤ line := by show 1 ≤ 1000000; decide
  have a1 : ((h : Int) + 1) = ((h + 1 : Nat) : Int) := by omega
  have c1 : catTD (plD (k.take h)) (.tup [.int c]) = .ok (plD (k.take h ++ [c])) := catT_pl (a := k.take h) (b := [c]) (by rw [List.length_take]; show _ + 1 ≤ 1000; omega)
  have c2 : catTD (plD (k.take h ++ [c])) (plD (k.drop (h + 1))) = .ok (plD (k.set h c)) := by
    rw [catT_pl (by rw [List.length_append, List.length_take, List.length_drop]; show _ + 1 + _ ≤ 1000; omega), set_split hh]
  simp only [ev_catT, ev_slT, ev_tup, es_cons, es_nil, eo_no, eo_yes, ev_ar, ev_int, e1, e2, e3, Res.ok_bind, ao_int, ao_add, slT_to, a1, slT_from k (h + 1) (by omega), l1, if_true, c1, c2]
end
end Tr

/-! Plain rows for tables: plays that lack a choice. -/
namespace Tr
open PySem PySem.Spec PyProof.Rows L2
section
variable {G : Gam} {env : Env}
theorem sizesA_sem {cl m : Nat} {ns : List Int} (hc : ClOk G cl ns) (hm : 0 < m) : outD ((bSizesA cl m).sem G [some (.scr ns), none, none]) = .ok (szD (szL m ns)) := by
  have r1 : It.sem G (.rng (.ar .add (.int 2) (.ar .mod (.call cl (.cons (.v 0) (.cons (.int 0) .nil))) (.int 2)))) [some (.scr ns), some (.lst []), none] = .ok ((List.range (2 + (cellN ns 0 % 2).toNat)).map fun i => D.int (i : Nat)) := by
    refine et_rngN ?_ (by omega)
    have c0 : E.sem G (.call cl (.cons (.v 0) (.cons (.int 0) .nil))) [some (.scr ns), some (.lst []), none] = .ok (.int (cellN ns 0)) := call_ev (ds := [.scr ns, .int ((0 : Nat) : Int)]) rfl (hc 0)
    have m0 : AOp.int .mod (cellN ns 0) 2 = .ok (.int (cellN ns 0 % 2)) := ao_mod (by decide)
    rw [ev_ar, ev_ar, c0]
    simp only [ev_int, Res.ok_bind, ao_int, m0, ao_add]
    congr 2
    omega
  obtain ⟨env, he, o2, rfl⟩ := forS_app (G := G) (i := 2) (b := (.seq (.app 1 (.nil) (.ar .add (.int 1) (.ar .mod (.call cl (.cons (.v 0) (.cons (.ar .add (.int 1) (.v 2)) .nil))) (.int (m : Nat))))) .skip)) (c := fun i : Nat => D.int (i : Nat)) (v := fun k : Nat => 1 + (cellN ns (1 + k) % (m : Int)).toNat) (m := 10)
    (P := fun (acc : List Nat) env => ∃ o2, env = [some (.scr ns), some (szD acc), o2]) (xs := List.range (2 + (cellN ns 0 % 2).toNat)) (acc := []) (env := [some (.scr ns), some (.lst []), none]) (by
      rintro acc env k _ ha ⟨o2, rfl⟩
      have n0 := Int.emod_nonneg (cellN ns (1 + k)) (show (m : Int) ≠ 0 by omega)
      have mm : AOp.int .mod (cellN ns (1 + k)) (m : Int) = .ok (.int (cellN ns (1 + k) % (m : Int))) := ao_mod (by omega)
      have a1 : (1 : Int) + (k : Int) = ((1 + k : Nat) : Int) := by omega
      have e0 : E.sem G (.call cl (.cons (.v 0) (.cons (.ar .add (.int 1) (.v 2)) .nil))) [some (.scr ns), some (szD acc), some (.int (k : Nat))] = .ok (.int (cellN ns (1 + k))) :=
        call_ev (ds := [.scr ns, .int ((1 + k : Nat) : Int)]) (by simp only [es_cons, es_nil, ev_ar, ev_v, ev_int, getE_0, getE_s, Res.ok_bind, ao_int, ao_add, a1]) (hc (1 + k))
      have hh : 1 + cellN ns (1 + k) % (m : Int) = ((1 + (cellN ns (1 + k) % (m : Int)).toNat : Nat) : Int) := by omega
      have e1 : E.sem G (.ar .add (.int 1) (.ar .mod (.call cl (.cons (.v 0) (.cons (.ar .add (.int 1) (.v 2)) .nil))) (.int (m : Nat)))) [some (.scr ns), some (szD acc), some (.int (k : Nat))] = .ok (.int ((1 + (cellN ns (1 + k) % (m : Int)).toNat : Nat) : Int)) := by
        rw [ev_ar, ev_ar, e0]
        simp only [ev_int, Res.ok_bind, ao_int, mm, ao_add, hh]
      have ap : appD (.int ((1 + (cellN ns (1 + k) % (m : Int)).toNat : Nat) : Int)) (szD acc) = .ok (szD (acc ++ [1 + (cellN ns (1 + k) % (m : Int)).toNat])) := by
        rw [Tr.app_ok (by rw [List.length_map]; show _ < 1000000; omega)]
        show _ = Res.ok (D.lst (List.map (fun s : Nat => D.int (s : Nat)) (acc ++ [_])))
        rw [List.map_append]; rfl
      refine ⟨[some (.scr ns), some (szD (acc ++ [1 + (cellN ns (1 + k) % (m : Int)).toNat])), some (.int (k : Nat))], ?_, _, rfl⟩
      show Out.andThen (S.sem G (.app 1 .nil (.ar .add (.int 1) (.ar .mod (.call cl (.cons (.v 0) (.cons (.ar .add (.int 1) (.v 2)) .nil))) (.int (m : Nat))))) [some (.scr ns), some (szD acc), some (.int (k : Nat))]) _ = _
      rw [sv_app, e1]
      show Out.andThen ((chg 1 [] (appD (.int ((1 + (cellN ns (1 + k) % (m : Int)).toNat : Nat) : Int))) _).bind fun env' => .ok (.nx env')) _ = _
      rw [chg_top (d := szD acc) rfl, ap]; rfl) (by rw [List.length_range]; show 0 + _ ≤ 10; omega) ⟨none, rfl⟩
  have t0 : E.sem G (.lst .nil) [some (.scr ns), none, none] = .ok (.lst []) := by
    rw [ev_lst, es_nil, Res.ok_bind, if_pos (show ([] : List D).length ≤ line from Nat.zero_le _)]
  refine (congrArg outD (asg_to (env' := [some (.scr ns), some (.lst []), none]) t0 rfl)).trans ?_
  rw [sv_dem, sv_seq, sv_for, r1, Res.ok_bind, he]
  rfl
abbrev bChoice : S :=
  .seq (.asg 3 (.ar .add (.ar .mod (.v 0) (.ar .pow (.int 10) (.int 18))) (.ar .mul (.int 48271) (.ar .add (.v 1) (.int 1))))) (
  .seq (.asg 3 (.ar .mod (.ar .mul (.v 3) (.v 3)) (.ix (.lst (.cons (.int 2147483647) (.cons (.int 2147483629) (.cons (.int 2147483587) .nil)))) (.v 1)))) (
  .seq (.asg 4 (.ar .mod (.v 0) (.ar .pow (.int 10) (.int 60)))) (
  .seq (.iff (.cmp .lt (.ar .mod (.v 3) (.int 4)) (.int 2))
    (.seq (.ret (.ar .mod (.ar .fdiv (.v 3) (.int 4)) (.v 2))) .skip)
    (.skip)) (
  .seq (.iff (.eq (.ar .mod (.v 3) (.int 4)) (.int 2))
    (.seq (.ret (.ar .add (.v 2) (.ix (.lst (.cons (.int 0) (.cons (.int 1) (.cons (.v 4) .nil)))) (.ar .mod (.ar .fdiv (.v 3) (.int 4)) (.int 3))))) .skip)
    (.skip)) (
  .seq (.ret (.ar .sub (.neg (.int 1)) (.ix (.lst (.cons (.int 0) (.cons (.v 4) .nil))) (.ar .mod (.ar .fdiv (.v 3) (.int 4)) (.int 2))))) .skip)))))
theorem choice_sem (c : Int) {h s : Nat} (hh : h < 3) (hs : 0 < s) : ∃ z : Int, outD (bChoice.sem G [some (.int c), some (.int (h : Nat)), some (.int (s : Nat)), none, none]) = .ok (.int z) := by
  have p18 : AOp.int .pow 10 18 = .ok (.int 1000000000000000000) := by rw [ao_pow (by decide)]; rfl
  have p60 : AOp.int .pow 10 60 = .ok (.int 1000000000000000000000000000000000000000000000000000000000000) := by rw [ao_pow (by decide)]; rfl
  have m18 : ∀ z : Int, AOp.int .mod z 1000000000000000000 = .ok (.int (z % 1000000000000000000)) := fun z => ao_mod (by decide)
  have m60 : ∀ z : Int, AOp.int .mod z 1000000000000000000000000000000000000000000000000000000000000 = .ok (.int (z % 1000000000000000000000000000000000000000000000000000000000000)) := fun z => ao_mod (by decide)
  have u1 : ∀ z : Int, AOp.int .mul 48271 z = .ok (.int (48271 * z)) := fun z => ao_mul_l (by decide)
  have m4 : ∀ z : Int, AOp.int .mod z 4 = .ok (.int (z % 4)) := fun z => ao_mod (by decide)
  have m3 : ∀ z : Int, AOp.int .mod z 3 = .ok (.int (z % 3)) := fun z => ao_mod (by decide)
  have m2 : ∀ z : Int, AOp.int .mod z 2 = .ok (.int (z % 2)) := fun z => ao_mod (by decide)
  have f4 : ∀ z : Int, AOp.int .fdiv z 4 = .ok (.int (z / 4)) := fun z => ao_fdiv (by decide) (by decide)
  have ms : ∀ z : Int, AOp.int .mod z (s : Int) = .ok (.int (z % (s : Int))) := fun z => ao_mod (by omega)
  have b1 : (c % 1000000000000000000 + 48271 * ((h : Int) + 1)).natAbs < 2 ^ 200 := by omega
  generalize hw : c % 1000000000000000000 + 48271 * ((h : Int) + 1) = w at b1
  have w1 : AOp.int .mul w w = .ok (.int (w * w)) := ao_mul_b (a := 199) (b := 199) b1 b1 (by decide)
  obtain ⟨md, hmd, md0⟩ : ∃ md : Int, ixD (.lst [.int 2147483647, .int 2147483629, .int 2147483587]) (.int (h : Nat)) = .ok (.int md) ∧ 0 < md := by
    match h, hh with
    | 0, _ => exact ⟨2147483647, ix_l (n := 0) rfl rfl, by decide⟩
    | 1, _ => exact ⟨2147483629, ix_l (n := 1) rfl rfl, by decide⟩
    | 2, _ => exact ⟨2147483587, ix_l (n := 2) rfl rfl, by decide⟩
  have mw : AOp.int .mod (w * w) md = .ok (.int (w * w % md)) := ao_mod md0
  have l3 : [D.int 2147483647, .int 2147483629, .int 2147483587].length ≤ line := by show 3 ≤ 1000000; decide
  let far : Int := c % 1000000000000000000000000000000000000000000000000000000000000
  have g1 : bChoice.sem G [some (.int c), some (.int (h : Nat)), some (.int (s : Nat)), none, none] = (S.drp 3 bChoice).sem G [some (.int c), some (.int (h : Nat)), some (.int (s : Nat)), some (.int (w * w % md)), some (.int far)] := by
    refine (asg_to (env' := [some (.int c), some (.int (h : Nat)), some (.int (s : Nat)), some (.int w), none]) ?_ rfl).trans ((asg_to (env' := [some (.int c), some (.int (h : Nat)), some (.int (s : Nat)), some (.int (w * w % md)), none]) ?_ rfl).trans ((asg_to (d := .int far) ?_ rfl).trans rfl))
    · simp only [ev_ar, ev_v, ev_int, getE_0, getE_s, Res.ok_bind, ao_int, p18, m18, ao_add, u1, hw]
    · simp only [ev_ar, ev_v, ev_int, ev_ix, ev_lst, es_cons, es_nil, getE_0, getE_s, Res.ok_bind, ao_int, w1, l3, if_true, hmd, mw]
    · simp only [ev_ar, ev_v, ev_int, getE_0, getE_s, Res.ok_bind, ao_int, p60, m60]; rfl
  rw [g1]
  generalize w * w % md = n
  generalize far = fr
  have c1 : E.sem G (.cmp .lt (.ar .mod (.v 3) (.int 4)) (.int 2)) [some (.int c), some (.int (h : Nat)), some (.int (s : Nat)), some (.int n), some (.int fr)] = .ok (.bl (decide (n % 4 < 2))) := by
    simp only [ev_cmp, ev_ar, ev_v, ev_int, getE_0, getE_s, Res.ok_bind, ao_int, m4, ao_lt]
  have c2 : E.sem G (.eq (.ar .mod (.v 3) (.int 4)) (.int 2)) [some (.int c), some (.int (h : Nat)), some (.int (s : Nat)), some (.int n), some (.int fr)] = .ok (.bl (decide (n % 4 = 2))) := by
    simp only [ev_eq, ev_ar, ev_v, ev_int, getE_0, getE_s, Res.ok_bind, ao_int, m4, ao_eqi]
  by_cases z1 : n % 4 < 2
  · rw [decide_eq_true z1] at c1
    refine ⟨n / 4 % (s : Int), ?_⟩
    show outD (S.sem G (.seq (.iff (.cmp .lt (.ar .mod (.v 3) (.int 4)) (.int 2)) _ _) _) _) = _
    rw [sv_seq, sv_iff, c1, iffS_t, sv_seq, sv_ret]
    simp only [ev_ar, ev_v, ev_int, getE_0, getE_s, Res.ok_bind, ao_int, f4, ms]
    rfl
  · rw [decide_eq_false z1] at c1
    by_cases z2 : n % 4 = 2
    · rw [decide_eq_true z2] at c2
      obtain ⟨y, hy⟩ : ∃ y : Int, ixD (.lst [.int 0, .int 1, .int fr]) (.int (n / 4 % 3)) = .ok (.int y) := by
        have : n / 4 % 3 = 0 ∨ n / 4 % 3 = 1 ∨ n / 4 % 3 = 2 := by omega
        rcases this with e | e | e <;> rw [e]
        · exact ⟨0, ix_l (n := 0) rfl rfl⟩
        · exact ⟨1, ix_l (n := 1) rfl rfl⟩
        · exact ⟨fr, ix_l (n := 2) rfl rfl⟩
      have l3' : [D.int 0, .int 1, .int fr].length ≤ line := by show 3 ≤ 1000000; decide
      refine ⟨(s : Int) + y, (congrArg outD (iff_to c1)).trans ?_⟩
      rw [sv_seq, sv_iff, c2, iffS_t, sv_seq, sv_ret]
      simp only [ev_ar, ev_v, ev_int, ev_ix, ev_lst, es_cons, es_nil, getE_0, getE_s, Res.ok_bind, ao_int, f4, m3, l3', if_true, hy, ao_add]
      rfl
    · rw [decide_eq_false z2] at c2
      obtain ⟨y, hy⟩ : ∃ y : Int, ixD (.lst [.int 0, .int fr]) (.int (n / 4 % 2)) = .ok (.int y) := by
        have : n / 4 % 2 = 0 ∨ n / 4 % 2 = 1 := by omega
        rcases this with e | e <;> rw [e]
        · exact ⟨0, ix_l (n := 0) rfl rfl⟩
        · exact ⟨fr, ix_l (n := 1) rfl rfl⟩
      have l2' : [D.int 0, .int fr].length ≤ line := by show 2 ≤ 1000000; decide
      refine ⟨-1 - y, (congrArg outD (iff_to c1)).trans ((congrArg outD (iff_to c2)).trans ?_)⟩
      rw [sv_seq, sv_ret]
      simp only [ev_ar, ev_neg, ao_neg, ev_v, ev_int, ev_ix, ev_lst, es_cons, es_nil, getE_0, getE_s, Res.ok_bind, ao_int, f4, m2, l2', if_true, hy, ao_sub]
      rfl
/-- the hands that lack their choice -/
def badP (szs : List Nat) (k : List Int) (i : Nat) : Bool := decide (k.getD i 0 < 0) || decide ((szs.getD i 0 : Int) ≤ k.getD i 0)
def badL (szs : List Nat) (k : List Int) : List Nat := (List.range szs.length).filter (badP szs k)
theorem bad_first (szs : List Nat) (k : List Int) : ∀ (l : List Nat) (kk : List Int) (i : Nat), l.length = kk.length → (∀ j, szs[i + j]? = l[j]?) → (∀ j, k[i + j]? = kk[j]?) → firstBad i l kk = ((List.range' i l.length).filter (badP szs k)).head?.map fun j => (j, k.getD j 0)
  | [], [], i, _, _, _ => rfl
  | [], _ :: _, _, h, _, _ => by cases h
  | _ :: _, [], _, h, _, _ => by cases h
  | s :: l, x :: kk, i, hl, h1, h2 => by
    have e1 : szs[i]? = some s := by have := h1 0; simpa using this
    have e2 : k[i]? = some x := by have := h2 0; simpa using this
    have g1 : szs.getD i 0 = s := by rw [List.getD_eq_getElem?_getD, e1]; rfl
    have g2 : k.getD i 0 = x := by rw [List.getD_eq_getElem?_getD, e2]; rfl
    rw [List.length_cons, List.range'_succ, List.filter_cons]
    unfold firstBad
    by_cases z : x < 0 ∨ (s : Int) ≤ x
    · have : badP szs k i = true := by unfold badP; rw [g1, g2]; simpa using z
      rw [if_pos z, if_pos this]
      show _ = some (i, k.getD i 0)
      rw [g2]
    · have : ¬ badP szs k i = true := by unfold badP; rw [g1, g2]; simpa using z
      rw [if_neg z, if_neg this]
      exact bad_first szs k l kk (i + 1) (by simpa using hl) (fun j => by have := h1 (j + 1); rw [Nat.add_assoc, Nat.add_comm 1 j, this]; rfl) (fun j => by have := h2 (j + 1); rw [Nat.add_assoc, Nat.add_comm 1 j, this]; rfl)
theorem bad_spec {szs : List Nat} {k : List Int} (hl : szs.length = k.length) : firstBad 0 szs k = (badL szs k).head?.map fun j => (j, k.getD j 0) := by
  unfold badL
  rw [List.range_eq_range']
  exact bad_first szs k szs k 0 hl (fun j => by rw [Nat.zero_add]) (fun j => by rw [Nat.zero_add])
theorem bad_none {szs : List Nat} {k : List Int} (hl : szs.length = k.length) (h : badL szs k = []) : okP szs k := ok_firstBad 0 hl (by rw [bad_spec hl, h]; rfl)
theorem bad_some {szs : List Nat} {k : List Int} {i : Nat} {r : List Nat} (hl : szs.length = k.length) (h : badL szs k = i :: r) : firstBad 0 szs k = some (i, k.getD i 0) := by rw [bad_spec hl, h]; rfl
/-- going_off on a play that lacks a choice -/
theorem go_bad {er rs sz bl jn c : Nat} {szs : List Nat} {f : List Int → List D} {k : List Int} {fs : List (Str × Int)} (he : G er [tbD szs f, plD k] = .exc c fs) : outD ((bGo er rs sz bl jn).sem G [some (tbD szs f), some (plD k), none, none, none, none, none, none]) = .exc c fs := by
  have r1 : It.sem G (.enum (.meth er "earned" (.v 0) (.cons (.v 1) .nil))) [some (tbD szs f), some (plD k), none, none, none, none, none, none] = .exc c fs := by
    simp only [et_enum, ev_meth, ev_v, getE_0, getE_s, Res.ok_bind, tb_nofld.1, if_true, es_cons, es_nil, he]
    rfl
  rw [sv_seq, sv_for, r1]
  rfl
end
end Tr

/-! Plain rows for tables: the program's plays, with a move. -/
namespace Tr
open PySem PySem.Spec PyProof.Rows L2
section
variable {G : Gam} {env : Env}
theorem plays_inner : ∀ (s : Nat) (st : List Int) (acc : List (List Int)) (o1 o5 : Option D) (o0 : Option D), st.length ≤ 100 → acc.length + s ≤ 100000 → s ≤ 100 → ∃ o5', S.sem G (.for_ [5] (.rng (.v 2)) (.seq (.app 3 (.nil) (.catT (.pin (.v 4)) (.tup (.cons (.v 5) .nil)))) .skip)) [o0, o1, some (.int (s : Nat)), some (.lst (acc.map plD)), some (plD st), o5] =
    .ok (.nx [o0, o1, some (.int (s : Nat)), some (.lst ((acc ++ (List.range s).map fun c => st ++ [((c : Nat) : Int)]).map plD)), some (plD st), o5']) := by
  intro s st acc o1 o5 o0 hst hacc h100
  have r : It.sem G (.rng (.v 2)) [o0, o1, some (.int (s : Nat)), some (.lst (acc.map plD)), some (plD st), o5] = .ok ((List.range s).map fun i => D.int (i : Nat)) := et_rngN rfl (by omega)
  obtain ⟨env, he, o5', e⟩ := forS_app (G := G) (i := 5) (b := (.seq (.app 3 (.nil) (.catT (.pin (.v 4)) (.tup (.cons (.v 5) .nil)))) .skip)) (c := fun i : Nat => D.int (i : Nat)) (v := fun c : Nat => st ++ [((c : Nat) : Int)]) (m := acc.length + s)
    (P := fun a env => ∃ o5, env = [o0, o1, some (.int (s : Nat)), some (.lst (a.map plD)), some (plD st), o5]) (xs := List.range s) (acc := acc) (env := [o0, o1, some (.int (s : Nat)), some (.lst (acc.map plD)), some (plD st), o5]) (by
      rintro a env c _ ha ⟨o5, rfl⟩
      have p1 : pinD (plD st) = .ok (plD st) := by show (if _ then _ else _) = _; rw [if_pos (pl_pure st)]
      have c1 : catTD (plD st) (.tup [.int (c : Nat)]) = .ok (plD (st ++ [((c : Nat) : Int)])) := by
        rw [catT_ok (by rw [List.length_map]; show st.length + 1 ≤ 1000000; omega)]
        simp
      have l1 : [D.int (c : Nat)].length ≤ line := by show 1 ≤ 1000000; decide
      have a1 : appD (plD (st ++ [((c : Nat) : Int)])) (.lst (a.map plD)) = .ok (.lst ((a ++ [st ++ [((c : Nat) : Int)]]).map plD)) := by
        rw [app_ok (by rw [List.length_map]; show a.length < 1000000; omega), List.map_append]; rfl
      refine ⟨_, ?_, some (.int (c : Nat)), rfl⟩
      have e1 : E.sem G (.catT (.pin (.v 4)) (.tup (.cons (.v 5) .nil))) [o0, o1, some (.int (s : Nat)), some (.lst (a.map plD)), some (plD st), some (.int (c : Nat))] = .ok (plD (st ++ [((c : Nat) : Int)])) := by
        simp only [ev_catT, ev_pin, ev_tup, es_cons, es_nil, ev_v, getE_0, getE_s, Res.ok_bind, p1, l1, if_true, c1]
      have g1 : chg 3 [] (appD (plD (st ++ [((c : Nat) : Int)]))) [o0, o1, some (.int (s : Nat)), some (.lst (a.map plD)), some (plD st), some (.int (c : Nat))] = .ok [o0, o1, some (.int (s : Nat)), some (.lst ((a ++ [st ++ [((c : Nat) : Int)]]).map plD)), some (plD st), some (.int (c : Nat))] := by
        rw [chg_top (d := .lst (a.map plD)) rfl, a1]; rfl
      show Out.andThen (S.sem G (.app 3 .nil (.catT (.pin (.v 4)) (.tup (.cons (.v 5) .nil)))) [o0, o1, some (.int (s : Nat)), some (.lst (a.map plD)), some (plD st), some (.int (c : Nat))]) (S.sem G .skip) = _
      rw [sv_app, e1]
      show Out.andThen ((chg 3 [] (appD (plD (st ++ [((c : Nat) : Int)]))) _).bind fun env' => .ok (.nx env')) _ = _
      rw [g1]; rfl) (by simp) ⟨o5, rfl⟩
  exact ⟨o5', by rw [sv_for, r, Res.ok_bind, he, e]⟩
theorem plays_mid : ∀ (s : Nat) (f : List (List Int)) (acc : List (List Int)) (o1 o4 o5 o0 : Option D), (∀ st ∈ f, st.length ≤ 100) → acc.length + f.length * s ≤ 100000 → s ≤ 100 → ∃ o4' o5', forS G [4] (.seq (.for_ [5] (.rng (.v 2)) (.seq (.app 3 (.nil) (.catT (.pin (.v 4)) (.tup (.cons (.v 5) .nil)))) .skip)) .skip) (f.map plD) [o0, o1, some (.int (s : Nat)), some (.lst (acc.map plD)), o4, o5] =
    .ok (.nx [o0, o1, some (.int (s : Nat)), some (.lst ((acc ++ ext f s).map plD)), o4', o5']) := by
  intro s f
  induction f with
  | nil => exact fun acc o1 o4 o5 o0 _ _ _ => ⟨o4, o5, by show Res.ok _ = _; rw [show ext [] s = [] from rfl, List.append_nil]⟩
  | cons st f ih =>
    intro acc o1 o4 o5 o0 hf hlen h100
    rw [List.length_cons, Nat.succ_mul] at hlen
    obtain ⟨o5', e1⟩ := plays_inner (G := G) s st acc o1 o5 o0 (hf st List.mem_cons_self) (by omega) h100
    obtain ⟨o4'', o5'', e2⟩ := ih (acc ++ (List.range s).map fun c => st ++ [((c : Nat) : Int)]) o1 (some (plD st)) o5' o0 (fun t ht => hf t (List.mem_cons_of_mem _ ht)) (by rw [List.length_append, List.length_map, List.length_range]; omega) h100
    refine ⟨o4'', o5'', ?_⟩
    rw [List.map_cons, forS_one, sv_seq]
    show Out.andThen (Out.andThen (S.sem G (.for_ [5] (.rng (.v 2)) _) [o0, o1, some (.int (s : Nat)), some (.lst (acc.map plD)), some (plD st), o5]) _) _ = _
    rw [e1, then_nx]
    show forS G [4] _ (f.map plD) _ = _
    rw [e2]
    unfold ext
    rw [List.flatMap_cons, List.append_assoc]
abbrev bPlaysM : S :=
  .seq (.asg 1 (.lst (.cons (.tup (.nil)) .nil))) (
  .dem 1 3 (.seq (.for_ [2] (.lst (.v 0))
    (.seq (.asg 3 (.lst (.nil))) (
    .dem 3 3 (.dem 1 2 (.seq (.for_ [4] (.lst (.v 1))
      (.seq (.for_ [5] (.rng (.v 2))
        (.seq (.app 3 (.nil) (.catT (.pin (.v 4)) (.tup (.cons (.v 5) .nil)))) .skip)) .skip)) (
    .seq (.mov 1 3) (.skip))))))) (
  .seq (.ret (.v 1)) .skip)))
theorem playsM_sem {szs : List Nat} (hs : SzOk szs) (hl : szs.length ≤ 100) : outD (bPlaysM.sem G [some (szD szs), none, none, none, none, none]) = .ok (.lst ((ordN szs).map plD)) := by
  have outer : ∀ (l : List Nat) (p : List Nat) (o2 o3 o4 o5 : Option D), p ++ l = szs → ∃ o2' o3' o4' o5', forS G [2] (.seq (.asg 3 (.lst (.nil))) (.dem 3 3 (.dem 1 2 (.seq (.for_ [4] (.lst (.v 1)) (.seq (.for_ [5] (.rng (.v 2)) (.seq (.app 3 (.nil) (.catT (.pin (.v 4)) (.tup (.cons (.v 5) .nil)))) .skip)) .skip)) (.seq (.mov 1 3) .skip))))) (l.map fun s => D.int (s : Nat))
      [some (szD szs), some (.lst ((ordN p).map plD)), o2, o3, o4, o5] = .ok (.nx [some (szD szs), some (.lst ((ordN szs).map plD)), o2', o3', o4', o5']) := by
    intro l
    induction l with
    | nil => exact fun p o2 o3 o4 o5 e => ⟨o2, o3, o4, o5, by rw [← e, List.append_nil]; rfl⟩
    | cons s l ih =>
      intro p o2 o3 o4 o5 e
      have hsm : s ∈ szs := by rw [← e]; simp
      have hpos : 0 < prodN l := prodN_pos fun t ht => hs.pos t (by rw [← e]; simp [ht])
      have happ : ∀ (a b : List Nat), prodN (a ++ b) = prodN a * prodN b := fun a b => by
        induction a with
        | nil => show prodN b = 1 * prodN b; omega
        | cons x a iha => show x * prodN (a ++ b) = x * prodN a * prodN b; rw [iha, Nat.mul_assoc]
      have hle : prodN p * s ≤ 100000 := by
        have h1 : prodN szs = prodN p * (s * prodN l) := by rw [← e, happ]; rfl
        have h2 : prodN p * s * 1 ≤ prodN p * s * prodN l := Nat.mul_le_mul_left _ hpos
        have := hs.2
        rw [h1, ← Nat.mul_assoc] at this
        omega
      obtain ⟨o4', o5', e1⟩ := plays_mid (G := G) s (ordN p) [] (some (.lst ((ordN p).map plD))) o4 o5 (some (szD szs)) (fun st hst => by
        obtain ⟨n, _, rfl⟩ := List.mem_map.mp hst
        rw [dig_len]
        have : p.length ≤ szs.length := by rw [← e]; simp
        omega) (by rw [ord_len]; simpa using hle) (hs.1 s hsm).2
      obtain ⟨q2, q3, q4, q5, e2⟩ := ih (p ++ [s]) (some (.int (s : Nat))) none o4' o5' (by rw [List.append_assoc]; exact e)
      refine ⟨q2, q3, q4, q5, ?_⟩
      rw [List.map_cons, forS_one]
      have l0 : E.sem G (.lst .nil) [some (szD szs), some (.lst ((ordN p).map plD)), some (.int (s : Nat)), o3, o4, o5] = .ok (.lst (([] : List (List Int)).map plD)) := by
        rw [ev_lst, es_nil, Res.ok_bind, if_pos (show ([] : List D).length ≤ line from Nat.zero_le _)]; rfl
      have r1 : It.sem G (.lst (.v 1)) [some (szD szs), some (.lst ((ordN p).map plD)), some (.int (s : Nat)), some (.lst (([] : List (List Int)).map plD)), o4, o5] = .ok ((ordN p).map plD) := rfl
      show Out.andThen (S.sem G (.seq (.asg 3 (.lst (.nil))) _) [some (szD szs), some (.lst ((ordN p).map plD)), some (.int (s : Nat)), o3, o4, o5]) _ = _
      rw [asg_to (env' := [some (szD szs), some (.lst ((ordN p).map plD)), some (.int (s : Nat)), some (.lst (([] : List (List Int)).map plD)), o4, o5]) l0 rfl, sv_dem, sv_dem, sv_seq, sv_for, r1, Res.ok_bind, e1, then_nx, List.nil_append, ← ord_snoc]
      exact e2
  obtain ⟨o2, o3, o4, o5, e⟩ := outer szs [] none none none none rfl
  have t0 : E.sem G (.lst (.cons (.tup (.nil)) .nil)) [some (szD szs), none, none, none, none, none] = .ok (.lst ((ordN []).map plD)) := by
    have l1 : ([] : List D).length ≤ line := by decide
    have l2 : [D.tup []].length ≤ line := by show 1 ≤ 1000000; decide
    simp only [ev_lst, es_cons, es_nil, ev_tup, l1, l2, if_true, Res.ok_bind]; rfl
  refine (congrArg outD (asg_to (env' := [some (szD szs), some (.lst ((ordN []).map plD)), none, none, none, none]) t0 rfl)).trans ?_
  rw [sv_dem, sv_seq, sv_for]
  show outD (Out.andThen (forS G [2] _ (szs.map fun s => D.int (s : Nat)) _) _) = _
  rw [e]
  rfl
end
end Tr

/-! Plain rows for mixings. -/
namespace Tr
open PySem PySem.Spec PyProof.Rows L2
section
variable {G : Gam} {env : Env}
theorem iff_tt {c : E} {a b r : S} (h : c.sem G env = .ok (.bl true)) : S.sem G (.seq (.iff c a b) r) env = Out.andThen (a.sem G env) (S.sem G r) := by rw [sv_seq, sv_iff, h]; rfl
theorem iff_b {c : E} {a b r : S} {t : Bool} (h : c.sem G env = .ok (.bl t)) : S.sem G (.seq (.iff c a b) r) env = Out.andThen (if t = true then a.sem G env else b.sem G env) (S.sem G r) := by rw [sv_seq, sv_iff, h]; rfl
theorem set_to {env' : Env} {x j : Nat} {i e : E} {d : D} {xs : List D} {r : S} (hi : i.sem G env = .ok (.int (j : Int))) (he : e.sem G env = .ok d) (hx : env[x]? = some (some (.lst xs))) (hj : j < xs.length) (h : env.set x (some (.lst (xs.set j d))) = env') : S.sem G (.seq (.set x .nil i e) r) env = S.sem G r env' := by
  rw [sv_seq, sv_set, hi, he]
  show Out.andThen ((chg x [] (setD (.int (j : Int)) d) env).bind fun env' => .ok (.nx env')) _ = _
  rw [chg_top hx, set_ok rfl hj, ← h]
  rfl
theorem app_to {env' : Env} {x : Nat} {e : E} {d : D} {xs : List D} {r : S} (he : e.sem G env = .ok d) (hx : env[x]? = some (some (.lst xs))) (hl : xs.length < line) (h : env.set x (some (.lst (xs ++ [d]))) = env') : S.sem G (.seq (.app x .nil e) r) env = S.sem G r env' := by
  rw [sv_seq, sv_app, he]
  show Out.andThen ((chg x [] (appD d) env).bind fun env' => .ok (.nx env')) _ = _
  rw [chg_top hx, app_ok hl, ← h]
  rfl
theorem ins_to {env' : Env} {x j : Nat} {i e : E} {d : D} {xs : List D} {r : S} (hi : i.sem G env = .ok (.int (j : Int))) (he : e.sem G env = .ok d) (hx : env[x]? = some (some (.lst xs))) (hj : j < 1000000) (hl : xs.length < line) (h : env.set x (some (.lst (xs.take j ++ [d] ++ xs.drop j))) = env') : S.sem G (.seq (.ins x .nil i e) r) env = S.sem G r env' := by
  rw [sv_seq, sv_ins, hi, he]
  show Out.andThen ((chg x [] (insD (.int (j : Int)) d) env).bind fun env' => .ok (.nx env')) _ = _
  have e1 : insD (.int (j : Int)) d (.lst xs) = .ok (.lst (xs.take j ++ [d] ++ xs.drop j)) := by
    have e0 : insD (.int (j : Int)) d (.lst xs) = if 0 ≤ (j : Int) ∧ (j : Int) < 2 ^ 62 ∧ xs.length < line then .ok (.lst (xs.take (j : Int).toNat ++ [d] ++ xs.drop (j : Int).toNat)) else .stuck := by unfold insD; rfl
    rw [e0, if_pos ⟨by omega, by omega, hl⟩, Int.toNat_natCast]
  rw [chg_top hx, e1, ← h]
  rfl
theorem pop_to {env' : Env} {x j : Nat} {i : E} {xs : List D} {r : S} (hi : i.sem G env = .ok (.int (j : Int))) (hx : env[x]? = some (some (.lst xs))) (hj : j < xs.length) (hl : xs.length < line) (h : env.set x (some (.lst (xs.eraseIdx j))) = env') : S.sem G (.seq (.pop x .nil i) r) env = S.sem G r env' := by
  rw [sv_seq, sv_pop, hi]
  show Out.andThen ((chg x [] (popD (.int (j : Int))) env).bind fun env' => .ok (.nx env')) _ = _
  have e0 : L2.ixN xs.length (j : Int) = some j := by unfold L2.ixN; rw [if_pos (by omega), if_pos (by omega)]; rfl
  have e1 : popD (.int (j : Int)) (.lst xs) = .ok (.lst (xs.eraseIdx j)) := by
    show (match L2.ixN xs.length (j : Int) with | some j => if xs.length < line then Res.ok (D.lst (xs.eraseIdx j)) else .stuck | none => .stuck) = _
    rw [e0]
    show (if _ then _ else _) = _
    rw [if_pos hl]
  rw [chg_top hx, e1, ← h]
  rfl
theorem erase_map {α β : Type} (f : α → β) : ∀ (l : List α) (j : Nat), (l.map f).eraseIdx j = (l.eraseIdx j).map f
  | [], _ => rfl
  | _ :: _, 0 => rfl
  | x :: l, j + 1 => by
    show f x :: (l.map f).eraseIdx j = f x :: (l.eraseIdx j).map f
    rw [erase_map f l j]
@[simp] theorem isI_bb {i : Bool} : isTy .bool (.bl i) = .ok (.bl true) := rfl
/-- two tuples of ints -/
theorem eqvT (a b : List Int) : eqvD (.tup (a.map D.int)) (.tup (b.map D.int)) = .ok (decide (a = b)) := by
  have h := eqvI a b
  have pl : ∀ xs : List Int, D.pyL (xs.map D.int) = some (xs.map PyData.int) := fun xs => by
    induction xs with
    | nil => rfl
    | cons x xs ih =>
      show (match D.py (.int x), D.pyL (xs.map D.int) with | some x, some xs => some (x :: xs) | _, _ => none) = _
      rw [ih]; rfl
  unfold eqvD at h ⊢
  rw [show (D.lst (a.map D.int)).py = some (.list (a.map PyData.int)) by show (D.pyL _).map PyData.list = _; rw [pl]; rfl, show (D.lst (b.map D.int)).py = some (.list (b.map PyData.int)) by show (D.pyL _).map PyData.list = _; rw [pl]; rfl] at h
  rw [show (D.tup (a.map D.int)).py = some (.tuple (a.map PyData.int)) by show (D.pyL _).map PyData.tuple = _; rw [pl]; rfl, show (D.tup (b.map D.int)).py = some (.tuple (b.map PyData.int)) by show (D.pyL _).map PyData.tuple = _; rw [pl]; rfl]
  have sh : ∀ xs : List Int, SeqAt.shaped (.tuple (xs.map PyData.int)) = SeqAt.shaped (.list (xs.map PyData.int)) := fun xs => rfl
  simp only [sh]
  simp only at h
  split at h
  · rename_i z
    rw [if_pos z]
    exact h
  · cases h
theorem rat_eq {x y : Rat} : x = y ↔ x.num = y.num ∧ x.den = y.den := ⟨fun h => by rw [h]; exact ⟨rfl, rfl⟩, fun ⟨h1, h2⟩ => Rat.ext h1 h2⟩
theorem eqvQ (x y : Rat) : eqvD (frQ x) (frQ y) = .ok (decide (x = y)) := by
  have := eqvT [x.num, (x.den : Int)] [y.num, (y.den : Int)]
  refine this.trans ?_
  congr 1
  refine decide_eq_decide.mpr ?_
  rw [rat_eq]
  constructor
  · intro h
    simp only [List.cons.injEq, and_true] at h
    exact ⟨h.1, by omega⟩
  · rintro ⟨h1, h2⟩
    rw [h1, h2]
theorem Bt.addm {k m : Nat} {x y : Rat} (h1 : Bt k x) (h2 : Bt m y) : Bt (k + m + 1) (x + y) := by
  rw [add_divInt]
  have e : 2 ^ (k + m + 1) = 2 ^ (k + m) * 2 := by rw [Nat.pow_succ]
  have a1 := mul_lt h1.1 h2.2
  have a2 := mul_lt h2.1 h1.2
  have a3 := mul_lt h1.2 h2.2
  rw [Nat.add_comm m k] at a2
  refine Bt.of (dd_ne x y) ?_ ?_
  · have := Int.natAbs_add_le (x.num * (y.den : Int)) (y.num * (x.den : Int))
    rw [Int.natAbs_mul, Int.natAbs_mul, Int.natAbs_natCast, Int.natAbs_natCast] at this
    omega
  · rw [Int.natAbs_mul, Int.natAbs_natCast, Int.natAbs_natCast]; omega
/-- the defs that reckon -/
def PlusOk (G : Gam) (pl : Nat) : Prop := ∀ x y : Rat, Bt 4000 x → Bt 4000 y → G pl [frQ x, frQ y] = .ok (frQ (x + y))
def TimesOk (G : Gam) (tm : Nat) : Prop := ∀ x y : Rat, Bt 4000 x → Bt 4000 y → G tm [frQ x, frQ y] = .ok (frQ (x * y))
def MinusOk (G : Gam) (mn : Nat) : Prop := ∀ x y : Rat, Bt 4000 x → Bt 4000 y → G mn [frQ x, frQ y] = .ok (frQ (x - y))
def BelowOk (G : Gam) (bl : Nat) : Prop := ∀ x y : Rat, Bt 4000 x → Bt 4000 y → G bl [frQ x, frQ y] = .ok (.bl (decide (x < y)))
/-! ### is it a mixing -/
def sumQ : List Rat → Rat
  | [] => 0
  | x :: r => x + sumQ r
def posQ (ws : List Rat) : Bool := ws.all fun w => !decide (w < 0)
def isMix (ws : List Rat) (many : Int) : Bool := decide ((ws.length : Int) = many) && (posQ ws && decide (sumQ ws = 1))
abbrev wsD (ws : List Rat) : D := .lst (ws.map frQ)
abbrev bMixB (bl pl : Nat) : S := .seq (.iff (.call bl (.cons (.v 3) (.cons (.tup (.cons (.int 0) (.cons (.int 1) .nil))) .nil)))
      (.seq (.ret (.bl false)) .skip)
      (.skip)) (
    .seq (.asg 2 (.call pl (.cons (.v 2) (.cons (.v 3) .nil)))) .skip)
abbrev bMix (bl pl : Nat) : S :=
  .seq (.iff (.ne (.len (.v 0)) (.v 1))
    (.seq (.ret (.bl false)) .skip)
    (.skip)) (
  .seq (.asg 2 (.tup (.cons (.int 0) (.cons (.int 1) .nil)))) (
  .seq (.for_ [3] (.lst (.v 0)) (bMixB bl pl)) (
  .seq (.ret (.eqv (.v 2) (.tup (.cons (.int 1) (.cons (.int 1) .nil))))) .skip)))
theorem tup01 {a : Int} : E.sem G (.tup (.cons (.int a) (.cons (.int 1) .nil))) env = .ok (.tup [.int a, .int 1]) := by
  have l2 : [D.int a, .int 1].length ≤ line := by show 2 ≤ 1000000; decide
  simp only [ev_tup, es_cons, es_nil, ev_int, Res.ok_bind, l2, if_true]
theorem mix_loop {bl pl : Nat} (hb : BelowOk G bl) (hp : PlusOk G pl) {o0 o1 : Option D} : ∀ (l : List Rat) (t : Rat) (k : Nat) (o3 : Option D), Bt k t → (∀ w ∈ l, Bt 400 w) → k + 401 * l.length ≤ 4000 →
    (posQ l = true → ∃ o3', forS G [3] (bMixB bl pl) (l.map frQ) [o0, o1, some (frQ t), o3] = .ok (.nx [o0, o1, some (frQ (t + sumQ l)), o3'])) ∧ (posQ l = false → forS G [3] (bMixB bl pl) (l.map frQ) [o0, o1, some (frQ t), o3] = .ok (.rt (.bl false)))
  | [], t, k, o3, ht, _, _ => ⟨fun _ => ⟨o3, by
      have : t + sumQ [] = t := Rat.add_zero t
      rw [this]; rfl⟩, fun h => by cases h⟩
  | w :: l, t, k, o3, ht, hw, hk => by
    rw [List.length_cons] at hk
    have bw := hw w List.mem_cons_self
    have c1 : G bl [frQ w, frQ 0] = .ok (.bl (decide (w < 0))) := hb w 0 (bw.mono (by decide)) (Bt.zero.mono (by decide))
    have e1 : E.sem G (.call bl (.cons (.v 3) (.cons (.tup (.cons (.int 0) (.cons (.int 1) .nil))) .nil))) [o0, o1, some (frQ t), some (frQ w)] = .ok (.bl (decide (w < 0))) :=
      call_ev (ds := [frQ w, frQ 0]) (by rw [es_cons, es_cons, tup01]; rfl) c1
    rw [List.map_cons, forS_one]
    show (_ → ∃ o3', Out.andThen (S.sem G (bMixB bl pl) [o0, o1, some (frQ t), some (frQ w)]) _ = _) ∧ (_ → Out.andThen (S.sem G (bMixB bl pl) [o0, o1, some (frQ t), some (frQ w)]) _ = _)
    by_cases z : w < 0
    · rw [decide_eq_true z] at e1
      refine ⟨fun h => ?_, fun _ => ?_⟩
      · exfalso
        unfold posQ at h
        rw [List.all_cons, decide_eq_true z] at h
        cases h
      · rw [iff_tt e1]; rfl
    · rw [decide_eq_false z] at e1
      have c2 : G pl [frQ t, frQ w] = .ok (frQ (t + w)) := hp t w (ht.mono (by omega)) (bw.mono (by decide))
      have st : S.sem G (bMixB bl pl) [o0, o1, some (frQ t), some (frQ w)] = .ok (.nx [o0, o1, some (frQ (t + w)), some (frQ w)]) :=
        (iff_to e1).trans ((asg_to (env' := [o0, o1, some (frQ (t + w)), some (frQ w)]) (call_ev (ds := [frQ t, frQ w]) rfl c2) rfl).trans rfl)
      have hpos : posQ (w :: l) = posQ l := by unfold posQ; rw [List.all_cons, decide_eq_false z]; rfl
      obtain ⟨i1, i2⟩ := mix_loop hb hp (o0 := o0) (o1 := o1) l (t + w) (k + 400 + 1) (some (frQ w)) (ht.addm bw) (fun x hx => hw x (List.mem_cons_of_mem _ hx)) (by omega)
      rw [st, then_nx, hpos]
      refine ⟨fun h => ?_, i2⟩
      obtain ⟨o3', e⟩ := i1 h
      refine ⟨o3', e.trans ?_⟩
      have : t + w + sumQ l = t + sumQ (w :: l) := Rat.add_assoc t w (sumQ l)
      rw [this]
theorem mix_sem {bl pl : Nat} (hb : BelowOk G bl) (hp : PlusOk G pl) {ws : List Rat} (hw : ∀ w ∈ ws, Bt 400 w) (hl : ws.length ≤ 9) (many : Int) : outD ((bMix bl pl).sem G [some (wsD ws), some (.int many), none, none]) = .ok (.bl (isMix ws many)) := by
  have c0 : E.sem G (.ne (.len (.v 0)) (.v 1)) [some (wsD ws), some (.int many), none, none] = .ok (.bl (!decide ((ws.length : Int) = many))) := by
    simp only [ev_ne, ev_len, ev_v, getE_0, getE_s, Res.ok_bind, ao_lenL, List.length_map, ao_eqi, ao_not]
  unfold isMix
  by_cases h0 : (ws.length : Int) = many
  · rw [decide_eq_true h0] at c0 ⊢
    have r1 : It.sem G (.lst (.v 0)) [some (wsD ws), some (.int many), some (frQ 0), none] = .ok (ws.map frQ) := rfl
    obtain ⟨i1, i2⟩ := mix_loop (G := G) hb hp (o0 := some (wsD ws)) (o1 := some (.int many)) ws 0 1 none Bt.zero hw (by omega)
    refine (congrArg outD (iff_to c0)).trans ((congrArg outD (asg_to (env' := [some (wsD ws), some (.int many), some (frQ 0), none]) tup01 rfl)).trans ?_)
    rw [sv_seq, sv_for, r1, Res.ok_bind]
    cases hq : posQ ws with
    | false => rw [i2 hq]; rfl
    | true =>
      obtain ⟨o3', e⟩ := i1 hq
      have z : (0 : Rat) + sumQ ws = sumQ ws := Rat.zero_add _
      rw [z] at e
      rw [e, then_nx, sv_seq, sv_ret, ev_eqv, tup01]
      show outD (Out.andThen (((eqvD (frQ (sumQ ws)) (frQ 1)).bind fun b => Res.ok (D.bl b)).bind fun d => .ok (.rt d)) _) = _
      rw [eqvQ]
      rfl
  · rw [decide_eq_false h0] at c0 ⊢
    rw [iff_tt c0]
    rfl
theorem cut_map {α β : Type} (f : α → β) (xs : List α) (lo hi : Option Int) : cutD (xs.map f) lo hi = (cutD xs lo hi).map f := by
  unfold cutD
  rw [List.length_map, List.map_take, List.map_drop]
theorem cut_len {α : Type} (xs : List α) (lo hi : Option Int) : (cutD xs lo hi).length ≤ xs.length := by
  unfold cutD
  rw [List.length_take, List.length_drop]; omega
theorem enum_ints : ∀ (cs : List Int) (n : Nat), ((cs.map D.int).zipIdx n).map (fun p => D.tup [.int (p.2 : Nat), p.1]) = (cs.zipIdx n).map fun q => D.tup [.int (q.2 : Nat), .int q.1]
  | [], _ => rfl
  | c :: cs, n => by
    rw [List.map_cons, List.zipIdx_cons, List.map_cons, enum_ints cs (n + 1), List.zipIdx_cons, List.map_cons]
theorem foldl_count {α : Type} : ∀ (l : List α) (s : Nat), l.foldl (fun s _ => s + 1) s = s + l.length
  | [], s => rfl
  | _ :: l, s => by rw [List.foldl_cons, foldl_count l, List.length_cons]; omega
theorem sum_nonneg : ∀ {l : List Int}, (∀ x ∈ l, 0 ≤ x) → 0 ≤ l.sum
  | [], _ => Int.le_refl 0
  | x :: l, h => by
    have := h x List.mem_cons_self
    have := sum_nonneg fun y hy => h y (List.mem_cons_of_mem _ hy)
    rw [List.sum_cons]; omega
theorem sum_pos : ∀ {l : List Int} {y : Int}, (∀ x ∈ l, 0 ≤ x) → y ∈ l → 0 < y → 0 < l.sum
  | [], y, _, hy, _ => by cases hy
  | x :: l, y, h, hy, hp => by
    have h0 := h x List.mem_cons_self
    have h1 := sum_nonneg fun z hz => h z (List.mem_cons_of_mem _ hz)
    rw [List.sum_cons]
    rcases List.mem_cons.mp hy with rfl | hy
    · omega
    · have := sum_pos (fun z hz => h z (List.mem_cons_of_mem _ hz)) hy hp
      omega
theorem sum_le {b : Int} : ∀ {l : List Int}, (∀ x ∈ l, x ≤ b) → l.sum ≤ l.length * b
  | [], _ => by simp
  | x :: l, h => by
    have h0 := h x List.mem_cons_self
    have h1 := sum_le fun z hz => h z (List.mem_cons_of_mem _ hz)
    rw [List.sum_cons, List.length_cons, Int.natCast_add, Int.add_mul]
    omega
theorem rep_ints (m : Nat) (z : Int) (hm : m ≤ 1000) : repD (.lst [.int z]) (.int (m : Int)) = .ok (.lst ((List.replicate m z).map D.int)) := by
  have e0 : repD (.lst [.int z]) (.int (m : Int)) = if -(2 ^ 63) ≤ (m : Int) ∧ (m : Int) < 2 ^ 63 ∧ [D.int z].length * (m : Int).toNat ≤ line then .ok (.lst (List.replicate (m : Int).toNat [D.int z]).flatten) else .stuck := by unfold repD; rfl
  rw [e0, Int.toNat_natCast, if_pos ⟨by omega, by omega, by show 1 * m ≤ 1000000; omega⟩]
  have fl : ∀ k : Nat, (List.replicate k [D.int z]).flatten = (List.replicate k z).map D.int := fun k => by
    induction k with
    | zero => rfl
    | succ k ih => rw [List.replicate_succ, List.flatten_cons, ih, List.replicate_succ]; rfl
  rw [fl]
theorem ws_at {ws : List Rat} {j : Nat} (hj : j < ws.length) : ixD (wsD ws) (.int (j : Nat)) = .ok (frQ ws[j]) := ix_l rfl (by rw [List.getElem?_map, List.getElem?_eq_getElem hj]; rfl)
theorem frQ_pure (x : Rat) : (frQ x).pure = true := rfl
theorem pin_ws (ws : List Rat) : pinD (wsD ws) = .ok (wsD ws) := by show (if _ then _ else _) = _; rw [if_pos (pureL_map frQ_pure ws)]
theorem ws_eqv (ws : List Rat) : eqvD (wsD ws) (wsD ws) = .ok true := PyOk.eqv (n := 2) (.lst fun d hd => by
  obtain ⟨w, _, rfl⟩ := List.mem_map.mp hd
  exact .tup fun e he => by
    rcases List.mem_cons.mp he with rfl | he
    · exact PyOk.int
    · cases List.mem_singleton.mp he; exact PyOk.int) (by decide)
end
end Tr

namespace Lw
open PySem PySem.Spec PyProof.Rows L2 Tr
set_option linter.all false
/-- _law_divisor: ['int', 'int'] to int -/
def b0 : S :=
  .seq (.asg 0 (.abs (.v 0))) (
  .seq (.asg 1 (.abs (.v 1))) (
  .seq (.whl (.cmp .gt (.v 1) (.int 0))
    (.seq (.par [0, 1] (.cons (.v 1) (.cons (.ar .mod (.v 0) (.v 1)) .nil))) .skip)) (
  .seq (.ret (.v 0)) .skip)))
def d0 : Dfn := ⟨"_law_divisor", ["_law_one", "_law_other"], ["_law_one", "_law_other"], [9, 9], 9, b0, 0, "_law_divisor"⟩
/-- _law_lowest: ['int', 'int'] to ('tup', ('int', 'int')) -/
def b1 : S :=
  .seq (.asg 2 (.call 0 (.cons (.v 0) (.cons (.v 1) .nil)))) (
  .seq (.ret (.tup (.cons (.ar .fdiv (.v 0) (.v 2)) (.cons (.ar .fdiv (.v 1) (.v 2)) .nil)))) .skip)
def d1 : Dfn := ⟨"_law_lowest", ["_law_top", "_law_bottom"], ["_law_top", "_law_bottom", "_law_by"], [9, 9], 9, b1, 0, "_law_lowest"⟩
/-- _law_more: ["('tup', ('int', 'int'))", 'int', 'int'] to ('tup', ('int', 'int')) -/
def b2 : S :=
  .seq (.ret (.call 1 (.cons (.ar .add (.ar .mul (.ix (.v 0) (.int 0)) (.v 2)) (.ar .mul (.v 1) (.ix (.v 0) (.int 1)))) (.cons (.ar .mul (.ix (.v 0) (.int 1)) (.v 2)) .nil)))) .skip
def d2 : Dfn := ⟨"_law_more", ["_law_one", "_law_top", "_law_bottom"], ["_law_one", "_law_top", "_law_bottom"], [9, 9, 9], 9, b2, 0, "_law_more"⟩
/-- _law_spoiled: ["('list', ('tup', ('int', 'int')))", 'int', 'int'] to ('list', ('tup', ('int', 'int'))) -/
def b3 : S :=
  .seq (.asg 3 (.ar .mod (.v 2) (.len (.v 0)))) (
  .seq (.asg 4 (.ar .mod (.ar .add (.v 3) (.int 1)) (.len (.v 0)))) (
  .seq (.asg 5 (.pur (.ix (.lst (.cons (.int 1) (.cons (.ar .add (.int 1) (.ar .mod (.ar .fdiv (.v 2) (.int 6)) (.ar .pow (.int 10) (.int 30)))) .nil))) (.ar .mod (.ar .fdiv (.v 2) (.int 3)) (.int 2))))) (
  .seq (.asg 6 (.lstOf (.pin (.v 0)))) (
  .dem 6 3 (.seq (.iff (.eq (.v 1) (.int 1))
    (.seq (.ins 6 (.nil) (.v 3) (.tup (.cons (.int 0) (.cons (.int 1) .nil)))) .skip)
    (.skip)) (
  .seq (.iff (.eq (.v 1) (.int 2))
    (.seq (.pop 6 (.nil) (.v 3)) .skip)
    (.skip)) (
  .seq (.iff (.or (.eq (.v 1) (.int 3)) (.eq (.v 1) (.int 4)))
    (.seq (.set 6 (.nil) (.v 3) (.call 2 (.cons (.ix (.v 6) (.v 3)) (.cons (.int 1) (.cons (.v 5) .nil))))) .skip)
    (.skip)) (
  .seq (.iff (.eq (.v 1) (.int 4))
    (.seq (.set 6 (.nil) (.v 4) (.call 2 (.cons (.ix (.v 6) (.v 4)) (.cons (.neg (.int 1)) (.cons (.v 5) .nil))))) .skip)
    (.skip)) (
  .seq (.iff (.eq (.v 1) (.int 5))
    (.seq (.asg 6 (.comp [7] (.lst (.v 6)) (.tup (.cons (.ar .sub (.int 0) (.ix (.v 7) (.int 0))) (.cons (.pur (.ix (.v 7) (.int 1))) .nil))))) (
    .dem 6 3 (.skip)))
    (.skip)) (
  .seq (.ret (.v 6)) .skip))))))))))
def d3 : Dfn := ⟨"_law_spoiled", ["_law_weights_here", "_law_way", "_law_number"], ["_law_weights_here", "_law_way", "_law_number", "_law_at", "_law_behind", "_law_share", "_law_found", "_law_one"], [1, 9, 9], 2, b3, 0, "_law_spoiled"⟩
/-- _law_cell_at: ['scr', 'int'] to int -/
def b4 : S :=
  .seq (.iff (.cmp .lt (.v 1) (.len (.v 0)))
    (.seq (.ret (.pur (.ix (.v 0) (.v 1)))) .skip)
    (.skip)) (
  .seq (.ret (.int 0)) .skip)
def d4 : Dfn := ⟨"_law_cell_at", ["_law_script", "_law_k"], ["_law_script", "_law_k"], [1, 9], 9, b4, 0, "_law_cell_at"⟩
/-- _law_weights: ['scr'] to ('list', ('tup', ('int', 'int'))) -/
def b5 : S :=
  .seq (.asg 1 (.rep (.pin (.lst (.cons (.int 0) .nil))) (.ar .add (.int 1) (.ar .mod (.call 4 (.cons (.v 0) (.cons (.int 0) .nil))) (.int 6))))) (
  .dem 1 3 (.seq (.for_ [2, 3] (.enum (.slL (.pin (.v 0)) (.yes (.int 3)) (.yes (.int 63))))
    (.seq (.asg 4 (.ar .mod (.v 2) (.len (.v 1)))) (
    .seq (.set 1 (.nil) (.v 4) (.ar .add (.ix (.v 1) (.v 4)) (.ar .mod (.v 3) (.ar .pow (.int 10) (.int 27))))) .skip))) (
  .seq (.iff (.eq (.sum (.v 1)) (.int 0))
    (.seq (.set 1 (.nil) (.ar .mod (.ar .fdiv (.call 4 (.cons (.v 0) (.cons (.int 0) .nil))) (.int 6)) (.len (.v 1))) (.int 1)) .skip)
    (.skip)) (
  .seq (.ret (.comp [5] (.lst (.v 1)) (.call 1 (.cons (.v 5) (.cons (.sum (.v 1)) .nil))))) .skip))))
def d5 : Dfn := ⟨"_law_weights", ["_law_script"], ["_law_script", "_law_parts", "_law_k", "_law_cell", "_law_at", "_law_part"], [1], 2, b5, 0, "_law_weights"⟩
/-- below: ["('tup', ('int', 'int'))", "('tup', ('int', 'int'))"] to bool -/
def b6 : S :=
  .seq (.ret (.cmp .lt (.ar .mul (.ix (.v 0) (.int 0)) (.ix (.v 1) (.int 1))) (.ar .mul (.ix (.v 1) (.int 0)) (.ix (.v 0) (.int 1))))) .skip
def d6 : Dfn := ⟨"below", ["one", "other"], ["one", "other"], [9, 9], 9, b6, 0, "below"⟩
/-- divisor: ['int', 'int'] to int -/
def b7 : S :=
  .seq (.asg 0 (.abs (.v 0))) (
  .seq (.asg 1 (.abs (.v 1))) (
  .seq (.whl (.cmp .gt (.v 1) (.int 0))
    (.seq (.asg 2 (.ar .mod (.v 0) (.v 1))) (
    .seq (.asg 0 (.v 1)) (
    .seq (.asg 1 (.v 2)) .skip)))) (
  .seq (.ret (.v 0)) .skip)))
def d7 : Dfn := ⟨"divisor", ["one", "other"], ["one", "other", "left"], [9, 9], 9, b7, 0, "divisor"⟩
/-- ratio: ['int', 'int'] to ('tup', ('int', 'int')) -/
def b8 : S :=
  .seq (.iff (.eq (.v 1) (.int 0))
    (.seq (.rse 1) .skip)
    (.skip)) (
  .seq (.asg 2 (.call 7 (.cons (.v 0) (.cons (.v 1) .nil)))) (
  .seq (.iff (.cmp .lt (.v 1) (.int 0))
    (.seq (.asg 2 (.ar .sub (.int 0) (.v 2))) .skip)
    (.skip)) (
  .seq (.ret (.tup (.cons (.ar .fdiv (.v 0) (.v 2)) (.cons (.ar .fdiv (.v 1) (.v 2)) .nil)))) .skip)))
def d8 : Dfn := ⟨"ratio", ["top", "bottom"], ["top", "bottom", "by"], [9, 9], 9, b8, 0, "ratio"⟩
/-- plus: ["('tup', ('int', 'int'))", "('tup', ('int', 'int'))"] to ('tup', ('int', 'int')) -/
def b9 : S :=
  .seq (.ret (.call 8 (.cons (.ar .add (.ar .mul (.ix (.v 0) (.int 0)) (.ix (.v 1) (.int 1))) (.ar .mul (.ix (.v 1) (.int 0)) (.ix (.v 0) (.int 1)))) (.cons (.ar .mul (.ix (.v 0) (.int 1)) (.ix (.v 1) (.int 1))) .nil)))) .skip
def d9 : Dfn := ⟨"plus", ["one", "other"], ["one", "other"], [9, 9], 9, b9, 0, "plus"⟩
/-- is_mixing: ["('list', ('tup', ('int', 'int')))", 'int'] to bool -/
def b10 : S :=
  .seq (.iff (.ne (.len (.v 0)) (.v 1))
    (.seq (.ret (.bl false)) .skip)
    (.skip)) (
  .seq (.asg 2 (.tup (.cons (.int 0) (.cons (.int 1) .nil)))) (
  .seq (.for_ [3] (.lst (.v 0))
    (.seq (.iff (.call 6 (.cons (.v 3) (.cons (.tup (.cons (.int 0) (.cons (.int 1) .nil))) .nil)))
      (.seq (.ret (.bl false)) .skip)
      (.skip)) (
    .seq (.asg 2 (.call 9 (.cons (.v 2) (.cons (.v 3) .nil)))) .skip))) (
  .seq (.ret (.eqv (.v 2) (.tup (.cons (.int 1) (.cons (.int 1) .nil))))) .skip)))
def d10 : Dfn := ⟨"is_mixing", ["weights", "many"], ["weights", "many", "total", "weight"], [1, 9], 9, b10, 0, "is_mixing"⟩
/-- _law_due: ["('list', ('tup', ('int', 'int')))", 'int'] to bool -/
def b11 : S :=
  .seq (.asg 2 (.int 0)) (
  .seq (.asg 3 (.int 1)) (
  .seq (.for_ [4] (.lst (.v 0))
    (.seq (.iff (.cmp .lt (.ix (.v 4) (.int 0)) (.int 0))
      (.seq (.ret (.bl false)) .skip)
      (.skip)) (
    .seq (.asg 2 (.ar .add (.ar .mul (.v 2) (.ix (.v 4) (.int 1))) (.ar .mul (.ix (.v 4) (.int 0)) (.v 3)))) (
    .seq (.asg 3 (.ar .mul (.v 3) (.ix (.v 4) (.int 1)))) .skip)))) (
  .seq (.ret (.and (.eq (.len (.v 0)) (.v 1)) (.eq (.v 2) (.v 3)))) .skip)))
def d11 : Dfn := ⟨"_law_due", ["_law_weights_here", "_law_many"], ["_law_weights_here", "_law_many", "_law_top", "_law_bottom", "_law_one"], [1, 9], 9, b11, 0, "_law_due"⟩
/-- law: ['scr'] to bool -/
def b12 : S :=
  .seq (.asg 1 (.call 3 (.cons (.call 5 (.cons (.v 0) .nil)) (.cons (.ar .mod (.call 4 (.cons (.v 0) (.cons (.int 1) .nil))) (.int 9)) (.cons (.ar .mod (.call 4 (.cons (.v 0) (.cons (.int 2) .nil))) (.ar .pow (.int 10) (.int 32))) .nil))))) (
  .seq (.for_ [2] (.lst (.lst (.cons (.int 0) (.cons (.int 1) (.cons (.neg (.int 1)) .nil)))))
    (.seq (.asg 3 (.max2 (.int 1) (.min2 (.int 6) (.ar .add (.len (.v 1)) (.v 2))))) (
    .seq (.asg 4 (.lstOf (.pin (.v 1)))) (
    .dem 4 2 (.seq (.asg 5 (.call 10 (.cons (.v 4) (.cons (.v 3) .nil)))) (
    .seq (.iff (.or (.not (.isI .bool (.v 5))) (.or (.ne (.v 5) (.call 11 (.cons (.v 1) (.cons (.v 3) .nil)))) (.nev (.v 4) (.v 1))))
      (.seq (.ret (.bl false)) .skip)
      (.skip)) .skip)))))) (
  .seq (.ret (.bl true)) .skip))
def d12 : Dfn := ⟨"law", ["_law_script"], ["_law_script", "_law_weights_here", "_law_step", "_law_many", "_law_handed", "_law_found"], [1], 9, b12, 0, "law"⟩
def L : List Dfn := [d0, d1, d2, d3, d4, d5, d6, d7, d8, d9, d10, d11, d12]
def Y : Xn := ⟨["PlayError", "NoNumber"], [[], []], [1], false, []⟩
def topS (i : Nat) : Stmt := PySem.Challenge.pw_mixplay_k11_a_mixing.main.body.getD i (.Pass ⟨0, 0, 0, 0⟩)
/-- where each def stands in the text -/
def at_ : List Nat := [13, 14, 15, 17, 11, 16, 7, 4, 5, 6, 9, 18, 19]
theorem sc0 : FnScope d0.N d0.ps (defScope (topS 13)) := ⟨rfl, rfl, rfl, by decide +kernel, rfl, by decide +kernel, by decide +kernel⟩
theorem ck0 : chkD L Y 0 d0 (topS 13) = true := by decide +kernel
theorem sc1 : FnScope d1.N d1.ps (defScope (topS 14)) := ⟨rfl, rfl, rfl, by decide +kernel, rfl, by decide +kernel, by decide +kernel⟩
theorem ck1 : chkD L Y 1 d1 (topS 14) = true := by decide +kernel
theorem sc2 : FnScope d2.N d2.ps (defScope (topS 15)) := ⟨rfl, rfl, rfl, by decide +kernel, rfl, by decide +kernel, by decide +kernel⟩
theorem ck2 : chkD L Y 2 d2 (topS 15) = true := by decide +kernel
theorem sc3 : FnScope d3.N d3.ps (defScope (topS 17)) := ⟨rfl, rfl, rfl, by decide +kernel, rfl, by decide +kernel, by decide +kernel⟩
theorem ck3 : chkD L Y 3 d3 (topS 17) = true := by decide +kernel
theorem sc4 : FnScope d4.N d4.ps (defScope (topS 11)) := ⟨rfl, rfl, rfl, by decide +kernel, rfl, by decide +kernel, by decide +kernel⟩
theorem ck4 : chkD L Y 4 d4 (topS 11) = true := by decide +kernel
theorem sc5 : FnScope d5.N d5.ps (defScope (topS 16)) := ⟨rfl, rfl, rfl, by decide +kernel, rfl, by decide +kernel, by decide +kernel⟩
theorem ck5 : chkD L Y 5 d5 (topS 16) = true := by decide +kernel
theorem sc6 : FnScope d6.N d6.ps (defScope (topS 7)) := ⟨rfl, rfl, rfl, by decide +kernel, rfl, by decide +kernel, by decide +kernel⟩
theorem ck6 : chkD L Y 6 d6 (topS 7) = true := by decide +kernel
theorem sc7 : FnScope d7.N d7.ps (defScope (topS 4)) := ⟨rfl, rfl, rfl, by decide +kernel, rfl, by decide +kernel, by decide +kernel⟩
theorem ck7 : chkD L Y 7 d7 (topS 4) = true := by decide +kernel
theorem sc8 : FnScope d8.N d8.ps (defScope (topS 5)) := ⟨rfl, rfl, rfl, by decide +kernel, rfl, by decide +kernel, by decide +kernel⟩
theorem ck8 : chkD L Y 8 d8 (topS 5) = true := by decide +kernel
theorem sc9 : FnScope d9.N d9.ps (defScope (topS 6)) := ⟨rfl, rfl, rfl, by decide +kernel, rfl, by decide +kernel, by decide +kernel⟩
theorem ck9 : chkD L Y 9 d9 (topS 6) = true := by decide +kernel
theorem sc10 : FnScope d10.N d10.ps (defScope (topS 9)) := ⟨rfl, rfl, rfl, by decide +kernel, rfl, by decide +kernel, by decide +kernel⟩
theorem ck10 : chkD L Y 10 d10 (topS 9) = true := by decide +kernel
theorem sc11 : FnScope d11.N d11.ps (defScope (topS 18)) := ⟨rfl, rfl, rfl, by decide +kernel, rfl, by decide +kernel, by decide +kernel⟩
theorem ck11 : chkD L Y 11 d11 (topS 18) = true := by decide +kernel
theorem sc12 : FnScope d12.N d12.ps (defScope (topS 19)) := ⟨rfl, rfl, rfl, by decide +kernel, rfl, by decide +kernel, by decide +kernel⟩
theorem ck12 : chkD L Y 12 d12 (topS 19) = true := by decide +kernel
/-! ### the plain law -/
theorem fn0 (a b : Int) : fnL L 0 [.int a, .int b] = .ok (.int (Int.gcd a b)) := by
  rw [fn_go L (d := d0) rfl (by simp [d0, purP]) (e := [some (.int a), some (.int b)]) rfl]
  exact div2_sem _ a b
theorem fn1 (t : Int) {b : Int} (hb : 0 < b) (hs : b.natAbs < 2 ^ 9000) : fnL L 1 [.int t, .int b] = .ok (frQ (Rat.divInt t b)) := by
  rw [fn_go L (d := d1) rfl (by simp [d1, purP]) (e := [some (.int t), some (.int b), none]) rfl]
  exact low_sem 0 (fun a b => by rw [gamL_lt L (by decide)]; exact fn0 a b) hb hs
theorem fn2 {k : Nat} {x : Rat} (hx : Bt k x) (hk : k ≤ 300) (t : Int) (ht : t.natAbs ≤ 2) {s : Int} (hs : 0 < s) (hs2 : s.natAbs < 2 ^ 110) : ∃ y : Rat, Bt (k + 112) y ∧ fnL L 2 [frQ x, .int t, .int s] = .ok (frQ y) := by
  rw [fn_go L (d := d2) rfl (by simp [d2, purP]) (e := [some (frQ x), some (.int t), some (.int s)]) rfl]
  have e300 : (2 : Nat) ^ 110 ≤ 2 ^ 4000 := Nat.pow_le_pow_right (by decide) (by decide)
  have b1 : Bt 4000 x := hx.mono (by omega)
  have b3 : s.natAbs < 2 ^ 4000 := Nat.lt_of_lt_of_le hs2 e300
  have m1 : AOp.int .mul x.num s = .ok (.int (x.num * s)) := mulN (k := 4000) (by decide) b1.1 b3
  have m2 : AOp.int .mul t (x.den : Int) = .ok (.int (t * (x.den : Int))) := ao_mul_l (by omega)
  have m3 : AOp.int .mul (x.den : Int) s = .ok (.int ((x.den : Int) * s)) := mulN (k := 4000) (by decide) (by rw [Int.natAbs_natCast]; exact b1.2) b3
  have dp : (0 : Int) < (x.den : Int) := Int.natCast_pos.mpr x.den_pos
  have pb : 0 < (x.den : Int) * s := Int.mul_pos dp hs
  have l1 : ((x.den : Int) * s).natAbs < 2 ^ (k + 110) := by rw [Int.natAbs_mul, Int.natAbs_natCast]; exact mul_lt hx.2 hs2
  have l2 : (x.num * s).natAbs < 2 ^ (k + 110) := by rw [Int.natAbs_mul]; exact mul_lt hx.1 hs2
  have l3 : (t * (x.den : Int)).natAbs ≤ 2 * x.den := by rw [Int.natAbs_mul, Int.natAbs_natCast]; exact Nat.mul_le_mul_right _ ht
  have e1 : (2 : Nat) ^ k * 2 ≤ 2 ^ (k + 110) := by rw [← Nat.pow_succ]; exact Nat.pow_le_pow_right (by decide) (by omega)
  have e2 : (2 : Nat) ^ (k + 112) = 2 ^ (k + 110) * 4 := by rw [show k + 112 = k + 110 + 2 by omega, Nat.pow_add]
  have h2 := hx.2
  have c1 : gamL L 2 1 [.int (x.num * s + t * (x.den : Int)), .int ((x.den : Int) * s)] = .ok (frQ (Rat.divInt (x.num * s + t * (x.den : Int)) ((x.den : Int) * s))) := by
    rw [gamL_lt L (by decide)]
    refine fn1 _ pb ?_
    exact Nat.lt_of_lt_of_le l1 (Nat.pow_le_pow_right (by decide) (by omega))
  refine ⟨Rat.divInt (x.num * s + t * (x.den : Int)) ((x.den : Int) * s), Bt.of (show (x.den : Int) * s ≠ 0 by omega) ?_ ?_, ?_⟩
  rotate_left 2
  · rw [show d2.body = b2 from rfl]
    unfold b2
    rw [sv_seq, sv_ret, call_ev (ds := [.int (x.num * s + t * (x.den : Int)), .int ((x.den : Int) * s)]) (by simp only [es_cons, es_nil, ev_ar, ev_ix, ev_v, ev_int, getE_0, getE_s, Res.ok_bind, ix_t0, ix_t1, ao_int, m1, m2, m3, ao_add]) c1]
    rfl
  · have := Int.natAbs_add_le (x.num * s) (t * (x.den : Int))
    omega
  · omega
/-- weights: from one to seven, not too long -/
def WsOk (k m : Nat) (ws : List Rat) : Prop := ws.length ≤ m ∧ ∀ w ∈ ws, Bt k w
theorem fn3 {ws : List Rat} (h1 : 1 ≤ ws.length) (hw : WsOk 110 6 ws) (way : Int) {n : Int} (hn : 0 ≤ n) : ∃ ws' : List Rat, fnL L 3 [wsD ws, .int way, .int n] = .ok (wsD ws') ∧ WsOk 400 7 ws' := by
  rw [fn_go L (d := d3) rfl (by simp [d3, purP]) (e := [some (wsD ws), some (.int way), some (.int n), none, none, none, none, none]) rfl]
  obtain ⟨hl, hb⟩ := hw
  have w400 : ∀ w ∈ ws, Bt 400 w := fun w hx => (hb w hx).mono (by decide)
  let m : Nat := ws.length
  have hm : m = ws.length := rfl
  obtain ⟨a, ha, ea⟩ : ∃ a : Nat, a < m ∧ n % (m : Int) = (a : Int) := by
    have z0 := Int.emod_nonneg n (show (m : Int) ≠ 0 by omega)
    have z1 := Int.emod_lt_of_pos n (show (0 : Int) < (m : Int) by omega)
    exact ⟨(n % (m : Int)).toNat, by omega, by omega⟩
  have mb : (a + 1) % m < m := Nat.mod_lt _ (by omega)
  generalize hbh : (a + 1) % m = b at mb
  have m1 : AOp.int .mod n (m : Int) = .ok (.int (a : Nat)) := by rw [ao_mod (by omega), ea]
  have m2 : AOp.int .mod ((a : Int) + 1) (m : Int) = .ok (.int (b : Nat)) := by rw [ao_mod (by omega), ← hbh]; rfl
  have f6 : AOp.int .fdiv n 6 = .ok (.int (n / 6)) := ao_fdiv (by decide) (log_9 (k := 6) (by decide) (by decide))
  have f3 : AOp.int .fdiv n 3 = .ok (.int (n / 3)) := ao_fdiv (by decide) (log_9 (k := 6) (by decide) (by decide))
  have p30 : AOp.int .pow 10 30 = .ok (.int 1000000000000000000000000000000) := by rw [ao_pow (by decide)]; rfl
  have m30 : ∀ z : Int, AOp.int .mod z 1000000000000000000000000000000 = .ok (.int (z % 1000000000000000000000000000000)) := fun z => ao_mod (by decide)
  have mt : ∀ z : Int, AOp.int .mod z 2 = .ok (.int (z % 2)) := fun z => ao_mod (by decide)
  have l2 : [D.int 1, .int (1 + n / 6 % 1000000000000000000000000000000)].length ≤ line := by show 2 ≤ 1000000; decide
  obtain ⟨s, hs0, hs1, hs⟩ : ∃ s : Int, 0 < s ∧ s.natAbs < 2 ^ 110 ∧ ixD (.lst [.int 1, .int (1 + n / 6 % 1000000000000000000000000000000)]) (.int (n / 3 % 2)) = .ok (.int s) := by
    have : n / 3 % 2 = 0 ∨ n / 3 % 2 = 1 := by omega
    rcases this with e | e <;> rw [e]
    · exact ⟨1, by decide, by decide, ix_l (n := 0) rfl rfl⟩
    · exact ⟨1 + n / 6 % 1000000000000000000000000000000, by omega, by omega, ix_l (n := 1) rfl rfl⟩
  have c2 : ∀ {k : Nat} {x : Rat}, Bt k x → k ≤ 288 → ∀ t : Int, t.natAbs ≤ 2 → ∃ y : Rat, Bt (k + 112) y ∧ gamL L 3 2 [frQ x, .int t, .int s] = .ok (frQ y) := fun hx hk t ht => by
    obtain ⟨y, hy, e⟩ := fn2 hx (by omega) t ht hs0 hs1
    exact ⟨y, hy, by rw [gamL_lt L (by decide)]; exact e⟩
  have g1 : d3.body.sem (gamL L 3) [some (wsD ws), some (.int way), some (.int n), none, none, none, none, none] = (S.drp 4 b3).sem (gamL L 3) [some (wsD ws), some (.int way), some (.int n), some (.int (a : Nat)), some (.int (b : Nat)), some (.int s), some (wsD ws), none] := by
    refine (asg_to (env' := [some (wsD ws), some (.int way), some (.int n), some (.int (a : Nat)), none, none, none, none]) ?_ rfl).trans ((asg_to (env' := [some (wsD ws), some (.int way), some (.int n), some (.int (a : Nat)), some (.int (b : Nat)), none, none, none]) ?_ rfl).trans ((asg_to (env' := [some (wsD ws), some (.int way), some (.int n), some (.int (a : Nat)), some (.int (b : Nat)), some (.int s), none, none]) ?_ rfl).trans ((asg_to (env' := [some (wsD ws), some (.int way), some (.int n), some (.int (a : Nat)), some (.int (b : Nat)), some (.int s), some (wsD ws), none]) ?_ rfl).trans rfl)))
    · simp only [ev_ar, ev_v, ev_len, getE_0, getE_s, Res.ok_bind, ao_lenL, List.length_map, ao_int, m1, ← hm]
    · simp only [ev_ar, ev_v, ev_int, ev_len, getE_0, getE_s, Res.ok_bind, ao_lenL, List.length_map, ao_int, ao_add, m2, ← hm]
    · simp only [ev_pur, ev_ix, ev_lst, es_cons, es_nil, ev_ar, ev_v, ev_int, getE_0, getE_s, Res.ok_bind, ao_int, f6, f3, p30, m30, mt, ao_add, l2, if_true, hs, pure_int]
    · simp only [ev_lstOf, ev_pin, ev_v, getE_0, Res.ok_bind, pin_ws, ao_lstL]
  rw [g1]
  let Ev : List Rat → Option D → Tr.Env := fun w o => [some (wsD ws), some (.int way), some (.int n), some (.int (a : Nat)), some (.int (b : Nat)), some (.int s), some (wsD w), o]
  have q1 : ∀ (z : Int) w o, E.sem (gamL L 3) (.eq (.v 1) (.int z)) (Ev w o) = .ok (.bl (decide (way = z))) := fun z w o => by
    simp only [Ev, ev_eq, ev_v, ev_int, getE_0, getE_s, Res.ok_bind, ao_eqi]
  have q34 : ∀ w o, E.sem (gamL L 3) (.or (.eq (.v 1) (.int 3)) (.eq (.v 1) (.int 4))) (Ev w o) = .ok (.bl (decide (way = 3) || decide (way = 4))) := fun w o => by
    rw [ev_or, q1, q1]
    generalize decide (way = 3) = t
    generalize decide (way = 4) = u
    cases t <;> cases u <;> rfl
  have fin : ∀ w o, outD ((S.drp 9 b3).sem (gamL L 3) (Ev w o)) = .ok (wsD w) := fun w o => rfl
  have no : ∀ {z : Int}, way ≠ z → decide (way = z) = false := fun h => decide_eq_false h
  show ∃ ws', outD ((S.drp 4 b3).sem (gamL L 3) (Ev ws none)) = .ok (wsD ws') ∧ _
  have x6 : ∀ (w : List Rat) o (j : Nat), j < w.length → (i : Nat) → (Ev w o)[i]? = some (some (.int (j : Nat))) → E.sem (gamL L 3) (.ix (.v 6) (.v i)) (Ev w o) = .ok (frQ (w.getD j 0)) := fun w o j hj i hi => by
    have e1 : E.sem (gamL L 3) (.v i) (Ev w o) = .ok (.int (j : Nat)) := by rw [ev_v]; unfold getE; rw [hi]
    rw [ev_ix, e1]
    show ixD (wsD w) (.int (j : Nat)) = _
    rw [ws_at hj, List.getD_eq_getElem?_getD, List.getElem?_eq_getElem hj]
    rfl
  have more : ∀ (w : List Rat) o (j i : Nat) (te : E) (t : Int) (k : Nat), j < w.length → (Ev w o)[i]? = some (some (.int (j : Nat))) → te.sem (gamL L 3) (Ev w o) = .ok (.int t) → t.natAbs ≤ 2 → Bt k (w.getD j 0) → k ≤ 288 → ∃ y : Rat, Bt (k + 112) y ∧
      ∀ r : S, S.sem (gamL L 3) (.seq (.set 6 .nil (.v i) (.call 2 (.cons (.ix (.v 6) (.v i)) (.cons te (.cons (.v 5) .nil))))) r) (Ev w o) = S.sem (gamL L 3) r (Ev (w.set j y) o) := fun w o j i te t k hj hi ht h2 hb hk => by
    obtain ⟨y, hy, e⟩ := c2 hb hk t h2
    refine ⟨y, hy, fun r => set_to (j := j) (d := frQ y) (xs := w.map frQ) (by rw [ev_v]; unfold getE; rw [hi]) (call_ev (ds := [frQ (w.getD j 0), .int t, .int s]) (by rw [es_cons, x6 w o j hj i hi, es_cons, ht]; rfl) e) rfl (by rw [List.length_map]; exact hj) ?_⟩
    show _ = Ev (w.set j y) o
    simp only [Ev, wsD, List.map_set]
    rfl
  have gb : ∀ {w : List Rat} {k j : Nat}, (∀ x ∈ w, Bt k x) → j < w.length → Bt k (w.getD j 0) := fun h hj => by
    rw [List.getD_eq_getElem?_getD, List.getElem?_eq_getElem hj]; exact h _ (List.getElem_mem hj)
  have t0 : ∀ w o, E.sem (gamL L 3) (.tup (.cons (.int 0) (.cons (.int 1) .nil))) (Ev w o) = .ok (frQ 0) := fun w o => tup01
  by_cases w1 : way = 1
  · refine ⟨ws.take a ++ [0] ++ ws.drop a, ?_, ?_, fun x hx => ?_⟩
    · have e1 : (S.drp 4 b3).sem (gamL L 3) (Ev ws none) = (S.drp 5 b3).sem (gamL L 3) (Ev (ws.take a ++ [0] ++ ws.drop a) none) := by
        refine (iff_tt (by rw [q1, decide_eq_true w1])).trans ?_
        rw [ins_to (env' := Ev (ws.take a ++ [0] ++ ws.drop a) none) (j := a) (d := frQ 0) (xs := ws.map frQ) rfl (t0 ws none) rfl (by omega) (by rw [List.length_map]; show _ < 1000000; omega) (by
          simp only [Ev, wsD, List.map_append, List.map_take, List.map_drop]; rfl)]
        rfl
      rw [e1]
      exact (congrArg outD ((iff_to (by rw [q1, no (by omega)])).trans ((iff_to (by rw [q34, no (by omega), no (by omega)]; rfl)).trans ((iff_to (by rw [q1, no (by omega)])).trans (iff_to (by rw [q1, no (by omega)])))))).trans (fin _ _)
    · rw [List.length_append, List.length_append, List.length_take, List.length_drop, List.length_singleton]; omega
    · rcases List.mem_append.mp hx with hx | hx
      · rcases List.mem_append.mp hx with hx | hx
        · exact w400 x (List.mem_of_mem_take hx)
        · rw [List.mem_singleton.mp hx]; exact Bt.zero.mono (by decide)
      · exact w400 x (List.mem_of_mem_drop hx)
  by_cases w2 : way = 2
  · refine ⟨ws.eraseIdx a, ?_, ?_, fun x hx => w400 x (List.mem_of_mem_eraseIdx hx)⟩
    · have e1 : (S.drp 5 b3).sem (gamL L 3) (Ev ws none) = (S.drp 6 b3).sem (gamL L 3) (Ev (ws.eraseIdx a) none) := by
        refine (iff_tt (by rw [q1, decide_eq_true w2])).trans ?_
        rw [pop_to (env' := Ev (ws.eraseIdx a) none) (j := a) (xs := ws.map frQ) rfl rfl (by rw [List.length_map]; exact ha) (by rw [List.length_map]; show _ < 1000000; omega) (by
          simp only [Ev, wsD, ← erase_map]; rfl)]
        rfl
      refine (congrArg outD ((iff_to (by rw [q1, no w1])).trans (e1.trans ((iff_to (by rw [q34, no (by omega), no (by omega)]; rfl)).trans ((iff_to (by rw [q1, no (by omega)])).trans (iff_to (by rw [q1, no (by omega)]))))))).trans (fin _ _)
    · have := List.length_eraseIdx_le ws a; omega
  by_cases w3 : way = 3
  · obtain ⟨y, hy, e⟩ := more ws none a 3 (.int 1) 1 110 ha rfl rfl (by decide) (gb hb ha) (by decide)
    refine ⟨ws.set a y, ?_, by rw [List.length_set]; omega, fun x hx => ?_⟩
    · have e1 : (S.drp 6 b3).sem (gamL L 3) (Ev ws none) = (S.drp 7 b3).sem (gamL L 3) (Ev (ws.set a y) none) := by
        refine (iff_tt (by rw [q34, decide_eq_true w3]; rfl)).trans ?_
        rw [e]; rfl
      refine (congrArg outD ((iff_to (by rw [q1, no w1])).trans ((iff_to (by rw [q1, no w2])).trans (e1.trans ((iff_to (by rw [q1, no (by omega)])).trans (iff_to (by rw [q1, no (by omega)]))))))).trans (fin _ _)
    · rcases List.mem_or_eq_of_mem_set hx with hx | rfl
      · exact w400 x hx
      · exact hy.mono (by decide)
  by_cases w4 : way = 4
  · obtain ⟨y, hy, e⟩ := more ws none a 3 (.int 1) 1 110 ha rfl rfl (by decide) (gb hb ha) (by decide)
    have hb2 : ∀ x ∈ ws.set a y, Bt 222 x := fun x hx => by
      rcases List.mem_or_eq_of_mem_set hx with hx | rfl
      · exact (hb x hx).mono (by decide)
      · exact hy
    have hbl : b < (ws.set a y).length := by rw [List.length_set]; exact mb
    obtain ⟨y2, hy2, e2⟩ := more (ws.set a y) none b 4 (.neg (.int 1)) (-1) 222 hbl rfl rfl (by decide) (gb hb2 hbl) (by decide)
    refine ⟨(ws.set a y).set b y2, ?_, by rw [List.length_set, List.length_set]; omega, fun x hx => ?_⟩
    · have e1 : (S.drp 6 b3).sem (gamL L 3) (Ev ws none) = (S.drp 7 b3).sem (gamL L 3) (Ev (ws.set a y) none) := by
        refine (iff_tt (by rw [q34, decide_eq_true w4, Bool.or_true])).trans ?_
        rw [e]; rfl
      have e3 : (S.drp 7 b3).sem (gamL L 3) (Ev (ws.set a y) none) = (S.drp 8 b3).sem (gamL L 3) (Ev ((ws.set a y).set b y2) none) := by
        refine (iff_tt (by rw [q1, decide_eq_true w4])).trans ?_
        rw [e2]; rfl
      refine (congrArg outD ((iff_to (by rw [q1, no w1])).trans ((iff_to (by rw [q1, no w2])).trans (e1.trans (e3.trans (iff_to (by rw [q1, no (by omega)]))))))).trans (fin _ _)
    · rcases List.mem_or_eq_of_mem_set hx with hx | rfl
      · exact (hb2 x hx).mono (by decide)
      · exact hy2.mono (by decide)
  by_cases w5 : way = 5
  · have r1 : It.sem (gamL L 3) (.lst (.v 6)) (Ev ws none) = .ok (ws.map frQ) := rfl
    have r3 := compE_one (G := gamL L 3) (i := 7) (e := .tup (.cons (.ar .sub (.int 0) (.ix (.v 7) (.int 0))) (.cons (.pur (.ix (.v 7) (.int 1))) .nil))) (env := Ev ws none) (c := frQ) (r := fun x : Rat => frQ (-x)) (xs := ws) (fun x _ => by
      have l2 : [D.int (0 - x.num), .int (x.den : Int)].length ≤ line := by show 2 ≤ 1000000; decide
      have e1 : E.sem (gamL L 3) (.tup (.cons (.ar .sub (.int 0) (.ix (.v 7) (.int 0))) (.cons (.pur (.ix (.v 7) (.int 1))) .nil))) (((Ev ws none).set 7 none).set 7 (some (frQ x))) = .ok (.tup [.int (0 - x.num), .int (x.den : Int)]) := by
        simp only [Ev, List.set_cons_zero, List.set_cons_succ, ev_tup, es_cons, es_nil, ev_pur, ev_ar, ev_ix, ev_v, ev_int, getE_0, getE_s, Res.ok_bind, ix_t0, ix_t1, ao_int, ao_sub, pure_int, l2, if_true]
      rw [e1]
      show _ = Res.ok (frQ (-x))
      rw [show frQ (-x) = .tup [.int (-x).num, .int ((-x).den : Int)] from rfl, Rat.neg_num, Rat.neg_den, Int.zero_sub])
    have ec : E.sem (gamL L 3) (.comp [7] (.lst (.v 6)) (.tup (.cons (.ar .sub (.int 0) (.ix (.v 7) (.int 0))) (.cons (.pur (.ix (.v 7) (.int 1))) .nil)))) (Ev ws none) = .ok (wsD (ws.map fun x => -x)) := by
      rw [ev_comp, r1, Res.ok_bind, r3, Res.ok_bind, if_pos (by rw [List.length_map]; show _ ≤ 1000000; omega)]
      show _ = Res.ok (D.lst (List.map frQ (List.map _ _)))
      rw [List.map_map]; rfl
    refine ⟨ws.map fun x => -x, ?_, by rw [List.length_map]; omega, fun x hx => ?_⟩
    · have e1 : (S.drp 8 b3).sem (gamL L 3) (Ev ws none) = (S.drp 9 b3).sem (gamL L 3) (Ev (ws.map fun x => -x) none) := by
        refine (iff_tt (by rw [q1, decide_eq_true w5])).trans ?_
        rw [asg_to (env' := Ev (ws.map fun x => -x) none) ec rfl]; rfl
      refine (congrArg outD ((iff_to (by rw [q1, no w1])).trans ((iff_to (by rw [q1, no w2])).trans ((iff_to (by rw [q34, no w3, no w4]; rfl)).trans ((iff_to (by rw [q1, no w4])).trans e1))))).trans (fin _ _)
    · obtain ⟨y, hy, rfl⟩ := List.mem_map.mp hx
      exact (w400 y hy).neg
  · refine ⟨ws, ?_, by omega, w400⟩
    exact (congrArg outD ((iff_to (by rw [q1, no w1])).trans ((iff_to (by rw [q1, no w2])).trans ((iff_to (by rw [q34, no w3, no w4]; rfl)).trans ((iff_to (by rw [q1, no w4])).trans (iff_to (by rw [q1, no w5]))))))).trans (fin _ _)
theorem fn4 (ns : List Int) (k : Nat) : fnL L 4 [.scr ns, .int k] = .ok (.int (cellN ns k)) := by
  rw [fn_go L (d := d4) rfl (by simp [d4, purP]) (e := [some (.scr ns), some (.int k)]) rfl]
  exact cell_sem ns k
abbrev bPt : S := (.seq (.asg 4 (.ar .mod (.v 2) (.len (.v 1)))) (
    .seq (.set 1 (.nil) (.v 4) (.ar .add (.ix (.v 1) (.v 4)) (.ar .mod (.v 3) (.ar .pow (.int 10) (.int 27))))) .skip))
theorem pt_step (ns : List Int) {m : Nat} (hm0 : 1 ≤ m) {ps : List Int} (hl : ps.length = m) (c : Int) (k : Nat) (o4 o5 : Option D) :
    S.sem (gamL L 5) bPt [some (.scr ns), some (.lst (ps.map D.int)), some (.int (k : Nat)), some (.int c), o4, o5] = .ok (.nx [some (.scr ns), some (.lst ((ps.set (k % m) (ps.getD (k % m) 0 + c % 1000000000000000000000000000)).map D.int)), some (.int (k : Nat)), some (.int c), some (.int ((k % m : Nat) : Int)), o5]) := by
  have p27 : AOp.int .pow 10 27 = .ok (.int 1000000000000000000000000000) := by rw [ao_pow (by decide)]; rfl
  have m27 : AOp.int .mod c 1000000000000000000000000000 = .ok (.int (c % 1000000000000000000000000000)) := ao_mod (by decide)
  have at_ : k % m < ps.length := by rw [hl]; exact Nat.mod_lt _ (by omega)
  have mm : AOp.int .mod (k : Int) (m : Int) = .ok (.int ((k % m : Nat) : Int)) := by rw [ao_mod (by omega)]; rfl
  have x1 : ixD (.lst (ps.map D.int)) (.int ((k % m : Nat) : Int)) = .ok (.int (ps.getD (k % m) 0)) := ix_int rfl at_
  have e1 : E.sem (gamL L 5) (.ar .mod (.v 2) (.len (.v 1))) [some (.scr ns), some (.lst (ps.map D.int)), some (.int (k : Nat)), some (.int c), o4, o5] = .ok (.int ((k % m : Nat) : Int)) := by
    rw [ev_ar, ev_len]
    show (Res.bind (lenD (.lst (ps.map D.int))) fun y => AOp.mod.sem (.int (k : Nat)) y) = _
    rw [ao_lenL, List.length_map, hl]
    exact mm
  have e2 : E.sem (gamL L 5) (.ar .add (.ix (.v 1) (.v 4)) (.ar .mod (.v 3) (.ar .pow (.int 10) (.int 27)))) [some (.scr ns), some (.lst (ps.map D.int)), some (.int (k : Nat)), some (.int c), some (.int ((k % m : Nat) : Int)), o5] = .ok (.int (ps.getD (k % m) 0 + c % 1000000000000000000000000000)) := by
    rw [ev_ar, ev_ix, ev_ar, ev_ar]
    show (Res.bind (ixD (.lst (ps.map D.int)) (.int ((k % m : Nat) : Int))) fun x => Res.bind (Res.bind (AOp.int .pow 10 27) fun y => AOp.mod.sem (.int c) y) fun y => AOp.add.sem x y) = _
    rw [x1, p27]
    show (Res.bind (AOp.int .mod c 1000000000000000000000000000) fun y => AOp.add.sem (.int (ps.getD (k % m) 0)) y) = _
    rw [m27]; rfl
  refine (asg_to (env' := [some (.scr ns), some (.lst (ps.map D.int)), some (.int (k : Nat)), some (.int c), some (.int ((k % m : Nat) : Int)), o5]) e1 rfl).trans ?_
  exact (set_to (j := k % m) (xs := ps.map D.int) (env' := [some (.scr ns), some (.lst ((ps.set (k % m) (ps.getD (k % m) 0 + c % 1000000000000000000000000000)).map D.int)), some (.int (k : Nat)), some (.int c), some (.int ((k % m : Nat) : Int)), o5]) rfl e2 rfl (by rw [List.length_map]; exact at_) (by rw [List.map_set]; rfl)).trans rfl
theorem pt_loop (ns : List Int) {m : Nat} (hm0 : 1 ≤ m) (cs : List Int) (lcs : cs.length ≤ 63) : ∃ (o2 o3 o4 : Option D) (ps : List Int), forS (gamL L 5) [2, 3] bPt ((cs.zipIdx 0).map fun q => D.tup [.int (q.2 : Nat), .int q.1]) [some (.scr ns), some (.lst ((List.replicate m 0).map D.int)), none, none, none, none] =
    .ok (.nx [some (.scr ns), some (.lst (ps.map D.int)), o2, o3, o4, none]) ∧ ps.length = m ∧ ∀ p ∈ ps, 0 ≤ p ∧ p ≤ 63000000000000000000000000000 := by
  obtain ⟨env', he, ⟨o2, o3, o4, ps, rfl, hl, hp⟩⟩ := forS_rel2 (G := gamL L 5) (i := 2) (j := 3) (b := bPt) (c := fun q : Int × Nat => D.int (q.2 : Nat)) (c' := fun q : Int × Nat => D.int q.1) (g := fun (s : Nat) _ => s + 1) (xs := cs.zipIdx 0) (s := (0 : Nat))
    (P := fun (s : Nat) env => ∃ (o2 o3 o4 : Option D) (ps : List Int), env = [some (.scr ns), some (.lst (ps.map D.int)), o2, o3, o4, none] ∧ ps.length = m ∧ ∀ p ∈ ps, 0 ≤ p ∧ p ≤ (s : Int) * 1000000000000000000000000000)
    (env := [some (.scr ns), some (.lst ((List.replicate m 0).map D.int)), none, none, none, none]) (by
      rintro s env q _ ⟨o2, o3, o4, ps, rfl, hl, hp⟩
      have at_ : q.2 % m < ps.length := by rw [hl]; exact Nat.mod_lt _ (by omega)
      have g0 : 0 ≤ ps.getD (q.2 % m) 0 ∧ ps.getD (q.2 % m) 0 ≤ (s : Int) * 1000000000000000000000000000 := by
        rw [List.getD_eq_getElem?_getD, List.getElem?_eq_getElem at_]
        exact hp _ (List.getElem_mem at_)
      refine ⟨_, pt_step ns hm0 hl q.1 q.2 o4 none, _, _, _, _, rfl, by rw [List.length_set]; exact hl, fun p hq => ?_⟩
      generalize ps.getD (q.2 % m) 0 = g at *
      have hs : ((s + 1 : Nat) : Int) * 1000000000000000000000000000 = (s : Int) * 1000000000000000000000000000 + 1000000000000000000000000000 := by omega
      rcases List.mem_or_eq_of_mem_set hq with hq | rfl
      · have := hp p hq
        omega
      · omega) ⟨none, none, none, _, rfl, by simp, fun p hp => by
        have := List.eq_of_mem_replicate hp
        subst this
        exact ⟨Int.le_refl 0, by omega⟩⟩
  rw [foldl_count, List.length_zipIdx, Nat.zero_add] at hp
  refine ⟨o2, o3, o4, ps, he, hl, fun p h => ?_⟩
  have := hp p h
  have : ((cs.length : Nat) : Int) * 1000000000000000000000000000 ≤ 63 * 1000000000000000000000000000 := Int.mul_le_mul_of_nonneg_right (by omega) (by omega)
  omega
theorem pt_one (ns : List Int) {m : Nat} (hm0 : 1 ≤ m) {ps : List Int} (hl : ps.length = m) (hp2 : ∀ p ∈ ps, 0 ≤ p ∧ p ≤ 63000000000000000000000000000) (o2 o3 o4 : Option D) : ∃ qs : List Int, qs.length = m ∧ (∀ p ∈ qs, 0 ≤ p ∧ p ≤ 63000000000000000000000000000) ∧ 0 < qs.sum ∧
    (S.drp 2 b5).sem (gamL L 5) [some (.scr ns), some (.lst (ps.map D.int)), o2, o3, o4, none] = (S.drp 3 b5).sem (gamL L 5) [some (.scr ns), some (.lst (qs.map D.int)), o2, o3, o4, none] := by
  have c4 : gamL L 5 4 [.scr ns, .int ((0 : Nat) : Int)] = .ok (.int (cellN ns 0)) := by rw [gamL_lt L (by decide)]; exact fn4 ns 0
  have e4 : E.sem (gamL L 5) (.call 4 (.cons (.v 0) (.cons (.int 0) .nil))) [some (.scr ns), some (.lst (ps.map D.int)), o2, o3, o4, none] = .ok (.int (cellN ns 0)) := call_ev (ds := [.scr ns, .int ((0 : Nat) : Int)]) rfl c4
  generalize cellN ns 0 = c0 at e4
  have f6 : AOp.int .fdiv c0 6 = .ok (.int (c0 / 6)) := ao_fdiv (by decide) (log_9 (k := 6) (by decide) (by decide))
  have q0 : E.sem (gamL L 5) (.eq (.sum (.v 1)) (.int 0)) [some (.scr ns), some (.lst (ps.map D.int)), o2, o3, o4, none] = .ok (.bl (decide (ps.sum = 0))) := by
    rw [ev_eq, ev_sum]
    show (Res.bind (sumD (.lst (ps.map D.int))) fun x => _) = _
    rw [sum_ints]; rfl
  by_cases z : ps.sum = 0
  · rw [decide_eq_true z] at q0
    obtain ⟨j, hj, ej⟩ : ∃ j : Nat, j < m ∧ c0 / 6 % (m : Int) = (j : Int) := by
      have a := Int.emod_nonneg (c0 / 6) (show (m : Int) ≠ 0 by omega)
      have b := Int.emod_lt_of_pos (c0 / 6) (show (0 : Int) < (m : Int) by omega)
      exact ⟨(c0 / 6 % (m : Int)).toNat, by omega, by omega⟩
    have mj : AOp.int .mod (c0 / 6) (m : Int) = .ok (.int (j : Nat)) := by rw [ao_mod (by omega), ej]
    have hj' : j < ps.length := by omega
    refine ⟨ps.set j 1, by rw [List.length_set]; exact hl, fun p hp => ?_, ?_, ?_⟩
    · rcases List.mem_or_eq_of_mem_set hp with hp | rfl
      · exact hp2 p hp
      · exact ⟨by omega, by omega⟩
    · refine sum_pos (y := 1) (fun p hp => ?_) (List.mem_iff_getElem.mpr ⟨j, by rw [List.length_set]; exact hj', by simp⟩) (by omega)
      rcases List.mem_or_eq_of_mem_set hp with hp | rfl
      · exact (hp2 p hp).1
      · omega
    · have ei : E.sem (gamL L 5) (.ar .mod (.ar .fdiv (.call 4 (.cons (.v 0) (.cons (.int 0) .nil))) (.int 6)) (.len (.v 1))) [some (.scr ns), some (.lst (ps.map D.int)), o2, o3, o4, none] = .ok (.int (j : Nat)) := by
        rw [ev_ar, ev_ar, e4, ev_len]
        show (Res.bind (AOp.int .fdiv c0 6) fun x => Res.bind (lenD (.lst (ps.map D.int))) fun y => AOp.mod.sem x y) = _
        rw [f6, ao_lenL, List.length_map, hl]
        exact mj
      refine (iff_tt q0).trans ?_
      rw [set_to (j := j) (d := .int 1) (xs := ps.map D.int) (env' := [some (.scr ns), some (.lst ((ps.set j 1).map D.int)), o2, o3, o4, none]) ei rfl rfl (by rw [List.length_map]; exact hj') (by rw [List.map_set]; rfl)]
      rfl
  · rw [decide_eq_false z] at q0
    have := sum_nonneg fun p hp => (hp2 p hp).1
    exact ⟨ps, hl, hp2, by omega, iff_to q0⟩
theorem pt_end (ns : List Int) {qs : List Int} (hqs : 0 < qs.sum) (sb : qs.sum.natAbs < 2 ^ 110) (hl : qs.length ≤ 6) (o2 o3 o4 : Option D) : outD ((S.drp 3 b5).sem (gamL L 5) [some (.scr ns), some (.lst (qs.map D.int)), o2, o3, o4, none]) = .ok (wsD (qs.map fun p => Rat.divInt p qs.sum)) := by
  have r2 : It.sem (gamL L 5) (.lst (.v 1)) [some (.scr ns), some (.lst (qs.map D.int)), o2, o3, o4, none] = .ok (qs.map D.int) := rfl
  have r3 := compE_one (G := gamL L 5) (i := 5) (e := .call 1 (.cons (.v 5) (.cons (.sum (.v 1)) .nil))) (env := [some (.scr ns), some (.lst (qs.map D.int)), o2, o3, o4, none]) (c := D.int) (r := fun p : Int => frQ (Rat.divInt p qs.sum)) (xs := qs) (fun p _ => by
    refine call_ev (ds := [.int p, .int qs.sum]) ?_ (by rw [gamL_lt L (by decide)]; exact fn1 p hqs (Nat.lt_of_lt_of_le sb (Nat.pow_le_pow_right (by omega) (by omega))))
    rw [es_cons, es_cons, ev_sum]
    show (Res.bind (Res.bind (sumD (.lst (qs.map D.int))) fun d => _) fun ds => _) = _
    rw [sum_ints]; rfl)
  show outD (S.sem (gamL L 5) (.seq (.ret (.comp [5] (.lst (.v 1)) (.call 1 (.cons (.v 5) (.cons (.sum (.v 1)) .nil))))) .skip) _) = _
  rw [sv_seq, sv_ret, ev_comp, r2, Res.ok_bind, r3, Res.ok_bind, if_pos (by rw [List.length_map]; show _ ≤ 1000000; omega)]
  show Res.ok (D.lst (qs.map fun p => frQ (Rat.divInt p qs.sum))) = Res.ok (D.lst ((qs.map fun p => Rat.divInt p qs.sum).map frQ))
  rw [List.map_map]; rfl
theorem fn5 (ns : List Int) (hns : ns.length ≤ 63) : ∃ ws : List Rat, fnL L 5 [.scr ns] = .ok (wsD ws) ∧ 1 ≤ ws.length ∧ WsOk 110 6 ws := by
  rw [fn_go L (d := d5) rfl (by simp [d5, purP]) (e := [some (.scr ns), none, none, none, none, none]) rfl]
  have c4 : gamL L 5 4 [.scr ns, .int ((0 : Nat) : Int)] = .ok (.int (cellN ns 0)) := by rw [gamL_lt L (by decide)]; exact fn4 ns 0
  have e4 : E.sem (gamL L 5) (.call 4 (.cons (.v 0) (.cons (.int 0) .nil))) [some (.scr ns), none, none, none, none, none] = .ok (.int (cellN ns 0)) := call_ev (ds := [.scr ns, .int ((0 : Nat) : Int)]) rfl c4
  generalize cellN ns 0 = c0 at e4
  have m6 : AOp.int .mod c0 6 = .ok (.int (c0 % 6)) := ao_mod (by decide)
  obtain ⟨m, hm0, hm6, em⟩ : ∃ m : Nat, 1 ≤ m ∧ m ≤ 6 ∧ 1 + c0 % 6 = (m : Int) := ⟨(1 + c0 % 6).toNat, by omega, by omega, by omega⟩
  have e1 : E.sem (gamL L 5) (.rep (.pin (.lst (.cons (.int 0) .nil))) (.ar .add (.int 1) (.ar .mod (.call 4 (.cons (.v 0) (.cons (.int 0) .nil))) (.int 6)))) [some (.scr ns), none, none, none, none, none] = .ok (.lst ((List.replicate m 0).map D.int)) := by
    have a1 : E.sem (gamL L 5) (.ar .add (.int 1) (.ar .mod (.call 4 (.cons (.v 0) (.cons (.int 0) .nil))) (.int 6))) [some (.scr ns), none, none, none, none, none] = .ok (.int (m : Nat)) := by
      rw [ev_ar, ev_ar, e4, ← em]
      show (Res.bind (Res.bind (AOp.int .mod c0 6) fun y => AOp.add.sem (.int 1) y) fun y => Res.ok y) = _
      rw [m6]; rfl
    have a2 : E.sem (gamL L 5) (.pin (.lst (.cons (.int 0) .nil))) [some (.scr ns), none, none, none, none, none] = .ok (.lst [.int 0]) := by
      have l1 : [D.int 0].length ≤ line := by show 1 ≤ 1000000; decide
      have p1 : pinD (.lst [.int 0]) = .ok (.lst [.int 0]) := rfl
      simp only [ev_pin, ev_lst, es_cons, es_nil, ev_int, Res.ok_bind, l1, if_true, p1]
    rw [ev_rep, a1, a2, Res.ok_bind, Res.ok_bind, rep_ints m 0 (by omega)]
  obtain ⟨cs, ecs, lcs⟩ : ∃ cs : List Int, Tr.cutD (ns.map D.int) (some 3) (some 63) = cs.map D.int ∧ cs.length ≤ 63 := ⟨Tr.cutD ns (some 3) (some 63), cut_map _ _ _ _, Nat.le_trans (cut_len _ _ _) hns⟩
  obtain ⟨o2, o3, o4, ps, he, hl, hp2⟩ := pt_loop ns hm0 cs lcs
  obtain ⟨qs, hql, hqp, hqs, e2⟩ := pt_one ns hm0 hl hp2 o2 o3 o4
  have sle : qs.sum ≤ 6 * 63000000000000000000000000000 := by
    have := sum_le fun p hp => (hqp p hp).2
    have : ((qs.length : Nat) : Int) * 63000000000000000000000000000 ≤ 6 * 63000000000000000000000000000 := Int.mul_le_mul_of_nonneg_right (by omega) (by omega)
    omega
  have sb : qs.sum.natAbs < 2 ^ 110 := by omega
  refine ⟨qs.map fun p => Rat.divInt p qs.sum, ?_, by rw [List.length_map]; omega, by rw [List.length_map]; omega, fun w hw => ?_⟩
  · have r1 : It.sem (gamL L 5) (.enum (.slL (.pin (.v 0)) (.yes (.int 3)) (.yes (.int 63)))) [some (.scr ns), some (.lst ((List.replicate m 0).map D.int)), none, none, none, none] = .ok ((cs.zipIdx 0).map fun q => D.tup [.int (q.2 : Nat), .int q.1]) := by
      have sl : E.sem (gamL L 5) (.slL (.pin (.v 0)) (.yes (.int 3)) (.yes (.int 63))) [some (.scr ns), some (.lst ((List.replicate m 0).map D.int)), none, none, none, none] = .ok (.lst (cs.map D.int)) := by
        simp only [ev_slL, ev_pin, eo_yes, ev_v, ev_int, getE_0, Res.ok_bind, pin_scr, sl_scr, ecs]
      rw [et_enum, sl]
      exact congrArg Res.ok (enum_ints cs 0)
    refine (congrArg outD (asg_to (env' := [some (.scr ns), some (.lst ((List.replicate m 0).map D.int)), none, none, none, none]) e1 rfl)).trans ?_
    rw [sv_dem]
    show outD (S.sem (gamL L 5) (.seq (.for_ [2, 3] (.enum (.slL (.pin (.v 0)) (.yes (.int 3)) (.yes (.int 63)))) bPt) (S.drp 2 b5)) _) = _
    rw [sv_seq, sv_for, r1, Res.ok_bind, he, then_nx, e2]
    exact pt_end ns hqs sb (by omega) o2 o3 o4
  · obtain ⟨p, hp, rfl⟩ := List.mem_map.mp hw
    have := hqp p hp
    exact Bt.of (by omega) (by omega) sb
theorem fn6 {x y : Rat} (hx : Bt 4000 x) (hy : Bt 4000 y) : fnL L 6 [frQ x, frQ y] = .ok (.bl (decide (x < y))) := by
  rw [fn_go L (d := d6) rfl (by simp [d6, purP]) (e := [some (frQ x), some (frQ y)]) rfl]
  exact below_sem (by decide) hx hy
theorem fn7 (a b : Int) : fnL L 7 [.int a, .int b] = .ok (.int (Int.gcd a b)) := by
  rw [fn_go L (d := d7) rfl (by simp [d7, purP]) (e := [some (.int a), some (.int b), none]) rfl]
  exact div_sem _ a b
theorem fn8 (t b : Int) (hb : b ≠ 0) (hs : b.natAbs < 2 ^ 9000) : fnL L 8 [.int t, .int b] = .ok (frQ (Rat.divInt t b)) := by
  rw [fn_go L (d := d8) rfl (by simp [d8, purP]) (e := [some (.int t), some (.int b), none]) rfl]
  exact ratio_sem 1 7 (fun a b => by rw [gamL_lt L (by decide)]; exact fn7 a b) hb hs
theorem fn9 {x y : Rat} (hx : Bt 4000 x) (hy : Bt 4000 y) : fnL L 9 [frQ x, frQ y] = .ok (frQ (x + y)) := by
  rw [fn_go L (d := d9) rfl (by simp [d9, purP]) (e := [some (frQ x), some (frQ y)]) rfl]
  exact plus_sem (rt := 8) (fun t b hb hs => by rw [gamL_lt L (by decide)]; exact fn8 t b hb hs) (by decide) hx hy
theorem fn10 {ws : List Rat} (hw : WsOk 400 7 ws) (many : Int) : fnL L 10 [wsD ws, .int many] = .ok (.bl (isMix ws many)) := by
  rw [fn_go L (d := d10) rfl (by simp [d10, purP]) (e := [some (wsD ws), some (.int many), none, none]) rfl]
  have := hw.1
  exact mix_sem (bl := 6) (pl := 9) (fun x y hx hy => by rw [gamL_lt L (by decide)]; exact fn6 hx hy) (fun x y hx hy => by rw [gamL_lt L (by decide)]; exact fn9 hx hy) hw.2 (by omega) many
abbrev bDu : S := (.seq (.iff (.cmp .lt (.ix (.v 4) (.int 0)) (.int 0))
      (.seq (.ret (.bl false)) .skip)
      (.skip)) (
    .seq (.asg 2 (.ar .add (.ar .mul (.v 2) (.ix (.v 4) (.int 1))) (.ar .mul (.ix (.v 4) (.int 0)) (.v 3)))) (
    .seq (.asg 3 (.ar .mul (.v 3) (.ix (.v 4) (.int 1)))) .skip)))
theorem due_loop {o0 o1 : Option D} : ∀ (l : List Rat) (T B : Int) (k : Nat) (o4 : Option D), 0 < B → T.natAbs < 2 ^ k → B.natAbs < 2 ^ k → (∀ w ∈ l, Bt 400 w) → k + 401 * l.length ≤ 4000 →
    (posQ l = true → ∃ (T' B' : Int) (o4' : Option D), forS (gamL L 11) [4] bDu (l.map frQ) [o0, o1, some (.int T), some (.int B), o4] = .ok (.nx [o0, o1, some (.int T'), some (.int B'), o4']) ∧ 0 < B' ∧ Rat.divInt T' B' = Rat.divInt T B + sumQ l) ∧
    (posQ l = false → forS (gamL L 11) [4] bDu (l.map frQ) [o0, o1, some (.int T), some (.int B), o4] = .ok (.rt (.bl false)))
  | [], T, B, k, o4, hB, _, _, _, _ => ⟨fun _ => ⟨T, B, o4, rfl, hB, (Rat.add_zero _).symm⟩, fun h => by cases h⟩
  | w :: l, T, B, k, o4, hB, t1, b1, hw, hk => by
    rw [List.length_cons] at hk
    have bw := hw w List.mem_cons_self
    have nw : decide (w.num < 0) = decide (w < 0) := decide_eq_decide.mpr (by rw [Rat.lt_iff]; simp)
    have e1 : E.sem (gamL L 11) (.cmp .lt (.ix (.v 4) (.int 0)) (.int 0)) [o0, o1, some (.int T), some (.int B), some (frQ w)] = .ok (.bl (decide (w < 0))) := by
      simp only [ev_cmp, ev_ix, ev_v, ev_int, getE_0, getE_s, Res.ok_bind, ix_t0, ao_lt, nw]
    rw [List.map_cons, forS_one]
    show (_ → ∃ (T' B' : Int) (o4' : Option D), Out.andThen (S.sem (gamL L 11) bDu [o0, o1, some (.int T), some (.int B), some (frQ w)]) _ = _ ∧ _) ∧ (_ → Out.andThen (S.sem (gamL L 11) bDu [o0, o1, some (.int T), some (.int B), some (frQ w)]) _ = _)
    by_cases z : w < 0
    · rw [decide_eq_true z] at e1
      refine ⟨fun h => ?_, fun _ => ?_⟩
      · exfalso
        unfold posQ at h
        rw [List.all_cons, decide_eq_true z] at h
        cases h
      · rw [iff_tt e1]; rfl
    · rw [decide_eq_false z] at e1
      have k4 : (2 : Nat) ^ k ≤ 2 ^ 4000 := Nat.pow_le_pow_right (by decide) (by omega)
      have bw4 : Bt 4000 w := bw.mono (by decide)
      have dp : (0 : Int) < (w.den : Int) := Int.natCast_pos.mpr w.den_pos
      have m1 : AOp.int .mul T (w.den : Int) = .ok (.int (T * (w.den : Int))) := mulN (k := 4000) (by decide) (Nat.lt_of_lt_of_le t1 k4) (by rw [Int.natAbs_natCast]; exact bw4.2)
      have m2 : AOp.int .mul w.num B = .ok (.int (w.num * B)) := mulN (k := 4000) (by decide) bw4.1 (Nat.lt_of_lt_of_le b1 k4)
      have m3 : AOp.int .mul B (w.den : Int) = .ok (.int (B * (w.den : Int))) := mulN (k := 4000) (by decide) (Nat.lt_of_lt_of_le b1 k4) (by rw [Int.natAbs_natCast]; exact bw4.2)
      have st : S.sem (gamL L 11) bDu [o0, o1, some (.int T), some (.int B), some (frQ w)] = .ok (.nx [o0, o1, some (.int (T * (w.den : Int) + w.num * B)), some (.int (B * (w.den : Int))), some (frQ w)]) := by
        refine (iff_to e1).trans ((asg_to (env' := [o0, o1, some (.int (T * (w.den : Int) + w.num * B)), some (.int B), some (frQ w)]) ?_ rfl).trans ((asg_to (env' := [o0, o1, some (.int (T * (w.den : Int) + w.num * B)), some (.int (B * (w.den : Int))), some (frQ w)]) ?_ rfl).trans rfl))
        · simp only [ev_ar, ev_ix, ev_v, ev_int, getE_0, getE_s, Res.ok_bind, ix_t0, ix_t1, ao_int, m1, m2, ao_add]
        · simp only [ev_ar, ev_ix, ev_v, ev_int, getE_0, getE_s, Res.ok_bind, ix_t1, ao_int, m3]
      have hpos : posQ (w :: l) = posQ l := by unfold posQ; rw [List.all_cons, decide_eq_false z]; rfl
      have B2 : 0 < B * (w.den : Int) := Int.mul_pos hB dp
      have lb : (B * (w.den : Int)).natAbs < 2 ^ (k + 400) := by rw [Int.natAbs_mul, Int.natAbs_natCast]; exact mul_lt b1 bw.2
      have lt1 : (T * (w.den : Int)).natAbs < 2 ^ (k + 400) := by rw [Int.natAbs_mul, Int.natAbs_natCast]; exact mul_lt t1 bw.2
      have lt2 : (w.num * B).natAbs < 2 ^ (k + 400) := by rw [Int.natAbs_mul, Nat.mul_comm]; exact mul_lt b1 bw.1
      have e2 : (2 : Nat) ^ (k + 400 + 1) = 2 ^ (k + 400) * 2 := Nat.pow_succ ..
      have la := Int.natAbs_add_le (T * (w.den : Int)) (w.num * B)
      obtain ⟨i1, i2⟩ := due_loop (o0 := o0) (o1 := o1) l (T * (w.den : Int) + w.num * B) (B * (w.den : Int)) (k + 400 + 1) (some (frQ w)) B2 (by omega) (by omega) (fun x hx => hw x (List.mem_cons_of_mem _ hx)) (by omega)
      rw [st, then_nx, hpos]
      refine ⟨fun h => ?_, i2⟩
      obtain ⟨T', B', o4', e, hB', es⟩ := i1 h
      refine ⟨T', B', o4', e, hB', es.trans ?_⟩
      have : Rat.divInt (T * (w.den : Int) + w.num * B) (B * (w.den : Int)) = Rat.divInt T B + w := by
        conv => rhs; rw [← Rat.num_divInt_den w]
        rw [Rat.divInt_add_divInt _ _ (by omega) (by omega)]
      rw [this]
      exact Rat.add_assoc _ w (sumQ l)
theorem fn11 {ws : List Rat} (hw : WsOk 400 7 ws) (many : Int) : fnL L 11 [wsD ws, .int many] = .ok (.bl (isMix ws many)) := by
  rw [fn_go L (d := d11) rfl (by simp [d11, purP]) (e := [some (wsD ws), some (.int many), none, none, none]) rfl]
  have hl := hw.1
  obtain ⟨i1, i2⟩ := due_loop (o0 := some (wsD ws)) (o1 := some (.int many)) ws 0 1 1 none (by decide) (by decide) (by decide) hw.2 (by omega)
  have r1 : It.sem (gamL L 11) (.lst (.v 0)) [some (wsD ws), some (.int many), some (.int 0), some (.int 1), none] = .ok (ws.map frQ) := rfl
  refine (congrArg outD (asg_to (env' := [some (wsD ws), some (.int many), some (.int 0), none, none]) (d := .int 0) rfl rfl)).trans ((congrArg outD (asg_to (env' := [some (wsD ws), some (.int many), some (.int 0), some (.int 1), none]) (d := .int 1) rfl rfl)).trans ?_)
  show outD (S.sem (gamL L 11) (.seq (.for_ [4] (.lst (.v 0)) bDu) (.seq (.ret (.and (.eq (.len (.v 0)) (.v 1)) (.eq (.v 2) (.v 3)))) .skip)) _) = _
  rw [sv_seq, sv_for, r1, Res.ok_bind]
  unfold isMix
  cases hq : posQ ws with
  | false => rw [i2 hq]; cases decide ((ws.length : Int) = many) <;> rfl
  | true =>
    obtain ⟨T, B, o4, e, hB, es⟩ := i1 hq
    have z0 : Rat.divInt 0 1 + sumQ ws = sumQ ws := by rw [Rat.zero_divInt, Rat.zero_add]
    rw [z0] at es
    have eb : decide (T = B) = decide (sumQ ws = 1) := by
      refine decide_eq_decide.mpr ?_
      rw [← es]
      constructor
      · intro h; rw [h]; exact Rat.divInt_self' (by omega)
      · intro h
        have : Rat.divInt T B = Rat.divInt 1 1 := by rw [h]; rfl
        have := (Rat.divInt_eq_divInt_iff (by omega) (by decide)).mp this
        omega
    rw [e, then_nx, sv_seq, sv_ret]
    have ee : E.sem (gamL L 11) (.and (.eq (.len (.v 0)) (.v 1)) (.eq (.v 2) (.v 3))) [some (wsD ws), some (.int many), some (.int T), some (.int B), o4] = .ok (.bl (decide ((ws.length : Int) = many) && (true && decide (sumQ ws = 1)))) := by
      simp only [ev_and, ev_eq, ev_len, ev_v, getE_0, getE_s, Res.ok_bind, ao_lenL, List.length_map, ao_eqi, eb]
      generalize decide ((ws.length : Int) = many) = t
      generalize decide (sumQ ws = 1) = u
      cases t <;> cases u <;> rfl
    rw [ee]
    rfl
abbrev bTurn : S := (.seq (.asg 3 (.max2 (.int 1) (.min2 (.int 6) (.ar .add (.len (.v 1)) (.v 2))))) (
    .seq (.asg 4 (.lstOf (.pin (.v 1)))) (
    .dem 4 2 (.seq (.asg 5 (.call 10 (.cons (.v 4) (.cons (.v 3) .nil)))) (
    .seq (.iff (.or (.not (.isI .bool (.v 5))) (.or (.ne (.v 5) (.call 11 (.cons (.v 1) (.cons (.v 3) .nil)))) (.nev (.v 4) (.v 1))))
      (.seq (.ret (.bl false)) .skip)
      (.skip)) .skip)))))
theorem pure_law : ∀ ns : List Int, ns.length ≤ 63 → fnL L 12 [.scr ns] = .ok (.bl true) := by
  intro ns hns
  rw [fn_go L (d := d12) rfl (by simp [d12, purP]) (e := [some (.scr ns), none, none, none, none, none]) rfl]
  obtain ⟨ws, e5, h1, hw⟩ := fn5 ns hns
  have c4 : ∀ k : Nat, gamL L 12 4 [.scr ns, .int (k : Int)] = .ok (.int (cellN ns k)) := fun k => by rw [gamL_lt L (by decide)]; exact fn4 ns k
  have e4 : ∀ (k : Nat) (r : Tr.Env), E.sem (gamL L 12) (.call 4 (.cons (.v 0) (.cons (.int (k : Int)) .nil))) (some (.scr ns) :: r) = .ok (.int (cellN ns k)) := fun k r => call_ev (ds := [.scr ns, .int (k : Int)]) rfl (c4 k)
  have m9 : AOp.int .mod (cellN ns 1) 9 = .ok (.int (cellN ns 1 % 9)) := ao_mod (by decide)
  have p32 : AOp.int .pow 10 32 = .ok (.int 100000000000000000000000000000000) := by rw [ao_pow (by decide)]; rfl
  have m32 : AOp.int .mod (cellN ns 2) 100000000000000000000000000000000 = .ok (.int (cellN ns 2 % 100000000000000000000000000000000)) := ao_mod (by decide)
  obtain ⟨vs, e3, hv⟩ := fn3 h1 hw (cellN ns 1 % 9) (n := cellN ns 2 % 100000000000000000000000000000000) (Int.emod_nonneg _ (by decide))
  have c5 : gamL L 12 5 [.scr ns] = .ok (wsD ws) := by rw [gamL_lt L (by decide)]; exact e5
  have c3 : gamL L 12 3 [wsD ws, .int (cellN ns 1 % 9), .int (cellN ns 2 % 100000000000000000000000000000000)] = .ok (wsD vs) := by rw [gamL_lt L (by decide)]; exact e3
  have c10 : ∀ m : Int, gamL L 12 10 [wsD vs, .int m] = .ok (.bl (isMix vs m)) := fun m => by rw [gamL_lt L (by decide)]; exact fn10 hv m
  have c11 : ∀ m : Int, gamL L 12 11 [wsD vs, .int m] = .ok (.bl (isMix vs m)) := fun m => by rw [gamL_lt L (by decide)]; exact fn11 hv m
  have e1 : E.sem (gamL L 12) (.call 3 (.cons (.call 5 (.cons (.v 0) .nil)) (.cons (.ar .mod (.call 4 (.cons (.v 0) (.cons (.int 1) .nil))) (.int 9)) (.cons (.ar .mod (.call 4 (.cons (.v 0) (.cons (.int 2) .nil))) (.ar .pow (.int 10) (.int 32))) .nil)))) [some (.scr ns), none, none, none, none, none] = .ok (wsD vs) := by
    refine call_ev (ds := [wsD ws, .int (cellN ns 1 % 9), .int (cellN ns 2 % 100000000000000000000000000000000)]) ?_ c3
    have e41 : E.sem (gamL L 12) (.call 4 (.cons (.v 0) (.cons (.int 1) .nil))) [some (.scr ns), none, none, none, none, none] = .ok (.int (cellN ns 1)) := e4 1 _
    have e42 : E.sem (gamL L 12) (.call 4 (.cons (.v 0) (.cons (.int 2) .nil))) [some (.scr ns), none, none, none, none, none] = .ok (.int (cellN ns 2)) := e4 2 _
    rw [es_cons, call_ev (ds := [.scr ns]) rfl c5, es_cons, ev_ar, e41, es_cons, ev_ar, e42]
    simp only [es_nil, ev_int, ev_ar, Res.ok_bind, ao_int, m9, p32, m32]
  refine (congrArg outD (asg_to (env' := [some (.scr ns), some (wsD vs), none, none, none, none]) e1 rfl)).trans ?_
  obtain ⟨env', he, o2, o3, o4, o5, rfl⟩ := forS_all (G := gamL L 12) (i := 2) (b := bTurn) (c := D.int) (xs := [0, 1, -1]) (P := fun env => ∃ o2 o3 o4 o5 : Option D, env = [some (.scr ns), some (wsD vs), o2, o3, o4, o5]) (env := [some (.scr ns), some (wsD vs), none, none, none, none]) (by
    rintro env z _ ⟨o2, o3, o4, o5, rfl⟩
    obtain ⟨m, em⟩ : ∃ m : Int, E.sem (gamL L 12) (.max2 (.int 1) (.min2 (.int 6) (.ar .add (.len (.v 1)) (.v 2)))) [some (.scr ns), some (wsD vs), some (.int z), o3, o4, o5] = .ok (.int m) := by
      refine ⟨if (if ((vs.map frQ).length : Int) + z < 6 then ((vs.map frQ).length : Int) + z else 6) > 1 then (if ((vs.map frQ).length : Int) + z < 6 then ((vs.map frQ).length : Int) + z else 6) else 1, ?_⟩
      simp only [ev_max2, ev_min2, ev_ar, ev_len, ev_v, ev_int, getE_0, getE_s, Res.ok_bind, ao_lenL, ao_int, ao_add]
      rfl
    refine ⟨[some (.scr ns), some (wsD vs), some (.int z), some (.int m), some (wsD vs), some (.bl (isMix vs m))], ?_, _, _, _, _, rfl⟩
    refine (asg_to (env' := [some (.scr ns), some (wsD vs), some (.int z), some (.int m), o4, o5]) em rfl).trans ((asg_to (env' := [some (.scr ns), some (wsD vs), some (.int z), some (.int m), some (wsD vs), o5]) ?_ rfl).trans ?_)
    · simp only [ev_lstOf, ev_pin, ev_v, getE_0, getE_s, Res.ok_bind, pin_ws, ao_lstL]
    rw [sv_dem]
    refine (asg_to (env' := [some (.scr ns), some (wsD vs), some (.int z), some (.int m), some (wsD vs), some (.bl (isMix vs m))]) (call_ev (ds := [wsD vs, .int m]) rfl (c10 m)) rfl).trans ((iff_to ?_).trans rfl)
    rw [ev_or, ev_not, ev_or, ev_ne, call_ev (f := 11) (ds := [wsD vs, .int m]) rfl (c11 m), ev_nev]
    simp only [ev_isI, ev_v, getE_0, getE_s, Res.ok_bind, isI_bb, ao_not, ao_eqb, decide_true, ws_eqv]
    rfl) ⟨none, none, none, none, rfl⟩
  have r2 : It.sem (gamL L 12) (.lst (.lst (.cons (.int 0) (.cons (.int 1) (.cons (.neg (.int 1)) .nil))))) [some (.scr ns), some (wsD vs), none, none, none, none] = .ok ([0, 1, -1].map D.int) := rfl
  show outD (S.sem (gamL L 12) (.seq (.for_ [2] _ bTurn) (.seq (.ret (.bl true)) .skip)) _) = _
  rw [sv_seq, sv_for, r2, Res.ok_bind, he]
  rfl
theorem all_mk {l : PySem.W.OpenLaw} {w : World} {K : PySem.W.Frag} {h : Heap} {mg : Str → Option Value} {fa f0 f1 f2 f3 f4 f5 f6 f7 f8 f9 f10 f11 f12 : Addr} (X : K.In h) (G : h.Ns mainGlobals mg) (hfa : mg "law" = some (.ref fa))
    {od0 an0 od1 an1 od2 an2 od3 an3 od4 an4 od5 an5 od6 an6 od7 an7 od8 an8 od9 an9 od10 an10 od11 an11 od12 an12 : Option Addr} {sl0 sl1 sl2 sl3 sl4 sl5 sl6 sl7 sl8 sl9 sl10 sl11 sl12 : Array (Option Value)} {oc0 kV0 dc0 pm0 cd0 ct0 oc1 kV1 dc1 pm1 cd1 ct1 oc2 kV2 dc2 pm2 cd2 ct2 oc3 kV3 dc3 pm3 cd3 ct3 oc4 kV4 dc4 pm4 cd4 ct4 oc5 kV5 dc5 pm5 cd5 ct5 oc6 kV6 dc6 pm6 cd6 ct6 oc7 kV7 dc7 pm7 cd7 ct7 oc8 kV8 dc8 pm8 cd8 ct8 oc9 kV9 dc9 pm9 cd9 ct9 oc10 kV10 dc10 pm10 cd10 ct10 oc11 kV11 dc11 pm11 cd11 ct11 oc12 kV12 dc12 pm12 cd12 ct12 : Value}
    {X0 X1 : Addr}
    (aX0 : PySem.W.nsIn K mainGlobals "PlayError" = some (some (.ref X0)))
    (kX0 : PySem.W.keepIn K (.ref X0) = true)
    (cX0 : PySem.W.isClsIn K X0 = true)
    (tX0 : PySem.W.typeIn K (.ref X0) = some (.type "type"))
    (nX0 : PySem.W.subIn K (.type "NoneType") (.ref X0) = some false)
    (aX1 : PySem.W.nsIn K mainGlobals "NoNumber" = some (some (.ref X1)))
    (kX1 : PySem.W.keepIn K (.ref X1) = true)
    (cX1 : PySem.W.isClsIn K X1 = true)
    (tX1 : PySem.W.typeIn K (.ref X1) = some (.type "type"))
    (nX1 : PySem.W.subIn K (.type "NoneType") (.ref X1) = some false)
    (s1_0 : PySem.W.subIn K (.ref X1) (.ref X0) = some true)
    (s1_1 : PySem.W.subIn K (.ref X1) (.ref X1) = some true)
    (vX1 : PySem.W.subIn K (.ref X1) (.type "ValueError") = some true)
    (bX1 : PySem.W.subIn K (.ref X1) (.type "BaseException") = some true)
    (gaX1 : PySem.W.findIn K (.ref X1) "__getattribute__" = some (some (.builtin "BaseException.__getattribute__")))
    (ggX1 : PySem.W.findIn K (.ref X1) "__getattr__" = some none)
    (caX1 : PySem.W.findIn K (.ref X1) "__class__" = some (some (.builtin "object.__class__")))
    (moX1 : PySem.W.mroIn K X1 (.type "object") = some true)
    (hdX1 : PySem.W.hasDictIn K X1 = true)
    (xiX1 : PySem.W.excIn K X1 [.type "ValueError", .type "Exception", .type "BaseException", .type "object"] "ValueError.__new__" = true)
    (bX0 : PySem.W.subIn K (.ref X0) (.type "BaseException") = some true)
    (hdX0 : PySem.W.hasDictIn K X0 = true)
    (xsp : PySem.W.specialIn K (.builtin "object.__class__") "__get__" = some (some (.builtin "getset_descriptor.__get__")))
    (xtk : PySem.W.takesIn K (.builtin "object.__class__") = some true)
    (a0 : PySem.W.nsIn K mainGlobals "_law_divisor" = some (some (.ref f0)))
    (l0 : K.lookup f0 = some ⟨oc0, od0, .func (PySem.W.fnOf "_law_divisor" "_law_divisor" (defArgs (topS 13)) (defBody (topS 13)) (defScope (topS 13)) .none kV0 dc0 pm0 an0 cd0 ct0), sl0⟩)
    (c0 : PySem.W.codeIn K cd0 "_law_divisor" = true)
    (k0 : PySem.W.keepIn K (.ref f0) = true)
    (a1 : PySem.W.nsIn K mainGlobals "_law_lowest" = some (some (.ref f1)))
    (l1 : K.lookup f1 = some ⟨oc1, od1, .func (PySem.W.fnOf "_law_lowest" "_law_lowest" (defArgs (topS 14)) (defBody (topS 14)) (defScope (topS 14)) .none kV1 dc1 pm1 an1 cd1 ct1), sl1⟩)
    (c1 : PySem.W.codeIn K cd1 "_law_lowest" = true)
    (k1 : PySem.W.keepIn K (.ref f1) = true)
    (a2 : PySem.W.nsIn K mainGlobals "_law_more" = some (some (.ref f2)))
    (l2 : K.lookup f2 = some ⟨oc2, od2, .func (PySem.W.fnOf "_law_more" "_law_more" (defArgs (topS 15)) (defBody (topS 15)) (defScope (topS 15)) .none kV2 dc2 pm2 an2 cd2 ct2), sl2⟩)
    (c2 : PySem.W.codeIn K cd2 "_law_more" = true)
    (k2 : PySem.W.keepIn K (.ref f2) = true)
    (a3 : PySem.W.nsIn K mainGlobals "_law_spoiled" = some (some (.ref f3)))
    (l3 : K.lookup f3 = some ⟨oc3, od3, .func (PySem.W.fnOf "_law_spoiled" "_law_spoiled" (defArgs (topS 17)) (defBody (topS 17)) (defScope (topS 17)) .none kV3 dc3 pm3 an3 cd3 ct3), sl3⟩)
    (c3 : PySem.W.codeIn K cd3 "_law_spoiled" = true)
    (k3 : PySem.W.keepIn K (.ref f3) = true)
    (a4 : PySem.W.nsIn K mainGlobals "_law_cell_at" = some (some (.ref f4)))
    (l4 : K.lookup f4 = some ⟨oc4, od4, .func (PySem.W.fnOf "_law_cell_at" "_law_cell_at" (defArgs (topS 11)) (defBody (topS 11)) (defScope (topS 11)) .none kV4 dc4 pm4 an4 cd4 ct4), sl4⟩)
    (c4 : PySem.W.codeIn K cd4 "_law_cell_at" = true)
    (k4 : PySem.W.keepIn K (.ref f4) = true)
    (a5 : PySem.W.nsIn K mainGlobals "_law_weights" = some (some (.ref f5)))
    (l5 : K.lookup f5 = some ⟨oc5, od5, .func (PySem.W.fnOf "_law_weights" "_law_weights" (defArgs (topS 16)) (defBody (topS 16)) (defScope (topS 16)) .none kV5 dc5 pm5 an5 cd5 ct5), sl5⟩)
    (c5 : PySem.W.codeIn K cd5 "_law_weights" = true)
    (k5 : PySem.W.keepIn K (.ref f5) = true)
    (a6 : PySem.W.nsIn K mainGlobals "below" = some (some (.ref f6)))
    (l6 : K.lookup f6 = some ⟨oc6, od6, .func (PySem.W.fnOf "below" "below" (defArgs (topS 7)) (defBody (topS 7)) (defScope (topS 7)) .none kV6 dc6 pm6 an6 cd6 ct6), sl6⟩)
    (c6 : PySem.W.codeIn K cd6 "below" = true)
    (k6 : PySem.W.keepIn K (.ref f6) = true)
    (a7 : PySem.W.nsIn K mainGlobals "divisor" = some (some (.ref f7)))
    (l7 : K.lookup f7 = some ⟨oc7, od7, .func (PySem.W.fnOf "divisor" "divisor" (defArgs (topS 4)) (defBody (topS 4)) (defScope (topS 4)) .none kV7 dc7 pm7 an7 cd7 ct7), sl7⟩)
    (c7 : PySem.W.codeIn K cd7 "divisor" = true)
    (k7 : PySem.W.keepIn K (.ref f7) = true)
    (a8 : PySem.W.nsIn K mainGlobals "ratio" = some (some (.ref f8)))
    (l8 : K.lookup f8 = some ⟨oc8, od8, .func (PySem.W.fnOf "ratio" "ratio" (defArgs (topS 5)) (defBody (topS 5)) (defScope (topS 5)) .none kV8 dc8 pm8 an8 cd8 ct8), sl8⟩)
    (c8 : PySem.W.codeIn K cd8 "ratio" = true)
    (k8 : PySem.W.keepIn K (.ref f8) = true)
    (a9 : PySem.W.nsIn K mainGlobals "plus" = some (some (.ref f9)))
    (l9 : K.lookup f9 = some ⟨oc9, od9, .func (PySem.W.fnOf "plus" "plus" (defArgs (topS 6)) (defBody (topS 6)) (defScope (topS 6)) .none kV9 dc9 pm9 an9 cd9 ct9), sl9⟩)
    (c9 : PySem.W.codeIn K cd9 "plus" = true)
    (k9 : PySem.W.keepIn K (.ref f9) = true)
    (a10 : PySem.W.nsIn K mainGlobals "is_mixing" = some (some (.ref f10)))
    (l10 : K.lookup f10 = some ⟨oc10, od10, .func (PySem.W.fnOf "is_mixing" "is_mixing" (defArgs (topS 9)) (defBody (topS 9)) (defScope (topS 9)) .none kV10 dc10 pm10 an10 cd10 ct10), sl10⟩)
    (c10 : PySem.W.codeIn K cd10 "is_mixing" = true)
    (k10 : PySem.W.keepIn K (.ref f10) = true)
    (a11 : PySem.W.nsIn K mainGlobals "_law_due" = some (some (.ref f11)))
    (l11 : K.lookup f11 = some ⟨oc11, od11, .func (PySem.W.fnOf "_law_due" "_law_due" (defArgs (topS 18)) (defBody (topS 18)) (defScope (topS 18)) .none kV11 dc11 pm11 an11 cd11 ct11), sl11⟩)
    (c11 : PySem.W.codeIn K cd11 "_law_due" = true)
    (k11 : PySem.W.keepIn K (.ref f11) = true)
    (a12 : PySem.W.nsIn K mainGlobals "law" = some (some (.ref f12)))
    (l12 : K.lookup f12 = some ⟨oc12, od12, .func (PySem.W.fnOf "law" "law" (defArgs (topS 19)) (defBody (topS 19)) (defScope (topS 19)) .none kV12 dc12 pm12 an12 cd12 ct12), sl12⟩)
    (c12 : PySem.W.codeIn K cd12 "law" = true)
    (k12 : PySem.W.keepIn K (.ref f12) = true)
    (z0 : PySem.W.nsIn K mainGlobals "len" = some none)
    (z1 : PySem.W.nsIn K mainGlobals "list" = some none)
    (z2 : PySem.W.nsIn K mainGlobals "tuple" = some none)
    (z3 : PySem.W.nsIn K mainGlobals "range" = some none)
    (z4 : PySem.W.nsIn K mainGlobals "abs" = some none)
    (z5 : PySem.W.nsIn K mainGlobals "max" = some none)
    (z6 : PySem.W.nsIn K mainGlobals "min" = some none)
    (z7 : PySem.W.nsIn K mainGlobals "sum" = some none)
    (z8 : PySem.W.nsIn K mainGlobals "isinstance" = some none)
    (z9 : PySem.W.nsIn K mainGlobals "int" = some none)
    (z10 : PySem.W.nsIn K mainGlobals "bool" = some none)
    (z11 : PySem.W.nsIn K mainGlobals "dict" = some none)
    (z12 : PySem.W.nsIn K mainGlobals "str" = some none)
    (z13 : PySem.W.nsIn K mainGlobals "enumerate" = some none)
    (z14 : PySem.W.nsIn K mainGlobals "zip" = some none)
    (z15 : PySem.W.nsIn K mainGlobals "reversed" = some none)
    (z16 : PySem.W.nsIn K mainGlobals "sorted" = some none)
    (z17 : PySem.W.nsIn K mainGlobals "ValueError" = some none) :
    ∃ fd : FuncData, (∀ (s : Shared) (v : Value), BindsTo s fd ⟨[v], []⟩ [("_law_script", v)]) ∧ ∀ base : Heap, K.In base → base.Ns mainGlobals mg → FnOk l.prog w K mg base (L2.CX l.prog w) 27 fa fd ["_law_script"] (spLaw ⟨K, 0, fun _ => 0, []⟩) := by
  have e := hfa.symm.trans (PySem.W.mg_of X G a12)
  cases e
  let p : Pm := ⟨K, 0, fun c => [X0, X1].getD c 0, [1]⟩
  have F0 := fun_mk (st := (topS 13)) l0 c0 k0
  have B0 := F0.binds (ps := d0.ps) fun _ _ _ _ _ _ us hl => match us, hl with | [_, _], _ => rfl
  have F1 := fun_mk (st := (topS 14)) l1 c1 k1
  have B1 := F1.binds (ps := d1.ps) fun _ _ _ _ _ _ us hl => match us, hl with | [_, _], _ => rfl
  have F2 := fun_mk (st := (topS 15)) l2 c2 k2
  have B2 := F2.binds (ps := d2.ps) fun _ _ _ _ _ _ us hl => match us, hl with | [_, _, _], _ => rfl
  have F3 := fun_mk (st := (topS 17)) l3 c3 k3
  have B3 := F3.binds (ps := d3.ps) fun _ _ _ _ _ _ us hl => match us, hl with | [_, _, _], _ => rfl
  have F4 := fun_mk (st := (topS 11)) l4 c4 k4
  have B4 := F4.binds (ps := d4.ps) fun _ _ _ _ _ _ us hl => match us, hl with | [_, _], _ => rfl
  have F5 := fun_mk (st := (topS 16)) l5 c5 k5
  have B5 := F5.binds (ps := d5.ps) fun _ _ _ _ _ _ us hl => match us, hl with | [_], _ => rfl
  have F6 := fun_mk (st := (topS 7)) l6 c6 k6
  have B6 := F6.binds (ps := d6.ps) fun _ _ _ _ _ _ us hl => match us, hl with | [_, _], _ => rfl
  have F7 := fun_mk (st := (topS 4)) l7 c7 k7
  have B7 := F7.binds (ps := d7.ps) fun _ _ _ _ _ _ us hl => match us, hl with | [_, _], _ => rfl
  have F8 := fun_mk (st := (topS 5)) l8 c8 k8
  have B8 := F8.binds (ps := d8.ps) fun _ _ _ _ _ _ us hl => match us, hl with | [_, _], _ => rfl
  have F9 := fun_mk (st := (topS 6)) l9 c9 k9
  have B9 := F9.binds (ps := d9.ps) fun _ _ _ _ _ _ us hl => match us, hl with | [_, _], _ => rfl
  have F10 := fun_mk (st := (topS 9)) l10 c10 k10
  have B10 := F10.binds (ps := d10.ps) fun _ _ _ _ _ _ us hl => match us, hl with | [_, _], _ => rfl
  have F11 := fun_mk (st := (topS 18)) l11 c11 k11
  have B11 := F11.binds (ps := d11.ps) fun _ _ _ _ _ _ us hl => match us, hl with | [_, _], _ => rfl
  have F12 := fun_mk (st := (topS 19)) l12 c12 k12
  have B12 := F12.binds (ps := d12.ps) fun _ _ _ _ _ _ us hl => match us, hl with | [_], _ => rfl
  refine ⟨PySem.W.fnOf "law" "law" (defArgs (topS 19)) (defBody (topS 19)) (defScope (topS 19)) .none kV12 dc12 pm12 an12 cd12 ct12, fun s v => .of_eq rfl, fun base _ _ => ?_⟩
  have hb : ∀ b ∈ bltNames, mg b = none := fun b hb => by
    simp only [bltNames, List.mem_cons, List.not_mem_nil, or_false] at hb
    rcases hb with rfl | rfl | rfl | rfl | rfl | rfl | rfl | rfl | rfl | rfl | rfl | rfl | rfl | rfl | rfl | rfl | rfl | rfl
    · exact PySem.W.mg_none_of X G z0
    · exact PySem.W.mg_none_of X G z1
    · exact PySem.W.mg_none_of X G z2
    · exact PySem.W.mg_none_of X G z3
    · exact PySem.W.mg_none_of X G z4
    · exact PySem.W.mg_none_of X G z5
    · exact PySem.W.mg_none_of X G z6
    · exact PySem.W.mg_none_of X G z7
    · exact PySem.W.mg_none_of X G z8
    · exact PySem.W.mg_none_of X G z9
    · exact PySem.W.mg_none_of X G z10
    · exact PySem.W.mg_none_of X G z11
    · exact PySem.W.mg_none_of X G z12
    · exact PySem.W.mg_none_of X G z13
    · exact PySem.W.mg_none_of X G z14
    · exact PySem.W.mg_none_of X G z15
    · exact PySem.W.mg_none_of X G z16
    · exact PySem.W.mg_none_of X G z17
  have xk : ∀ j L, Xok p (nmT L Y j) := fun j L => {
    kp := fun c x h => (match c, h with | 0, h => by cases h; exact ⟨kX0, cX0, tX0⟩ | 1, h => by cases h; exact ⟨kX1, cX1, tX1⟩ | c + 2, h => by simp [nmT, Y] at h)
    rq := fun c hc => hc
    rs := fun c hc => (by
      simp only [p, Y, List.mem_cons, List.not_mem_nil, or_false] at hc
      subst hc
      · exact (show 1 < Y.x.length ∧ (1 : Nat) ≠ 0 by decide))
    sub := fun c hc d x h => (by
      simp only [p, Y, List.mem_cons, List.not_mem_nil, or_false] at hc
      subst hc
      · exact (match d, h with | 0, h => s1_0 | 1, h => s1_1 | d + 2, h => by simp [nmT, Y] at h))
    ve := fun c hc => (by
      simp only [p, Y, List.mem_cons, List.not_mem_nil, or_false] at hc
      subst hc
      · exact vX1)
    non := fun c x h => (match c, h with | 0, h => by cases h; exact nX0 | 1, h => by cases h; exact nX1 | c + 2, h => by simp [nmT, Y] at h)
    ra := fun c hc => (by
      simp only [p, Y, List.mem_cons, List.not_mem_nil, or_false] at hc
      subst hc
      · exact ⟨bX1, gaX1, ggX1, caX1, moX1, hdX1⟩)
    pe := fun h => ⟨bX0, hdX0⟩
    raw := fun c hc h => (by
      simp only [p, Y, List.mem_cons, List.not_mem_nil, or_false] at hc
      subst hc
      · exact xiX1)
    oex := fun c hc fs h hne => (by
      simp only [p, Y, List.mem_cons, List.not_mem_nil, or_false] at hc
      subst hc
      · exact absurd (Option.some.inj h).symm hne)
    no := fun c hc f h => (by simp [nmT, Y] at h)
    sp := fun h => ⟨xsp, xtk⟩ }
  have C : ClsAt p mg Y := ⟨fun h => (by cases h), xk, fun c x h => (match c, h with | 0, h => by cases h; exact PySem.W.mg_of X G aX0 | 1, h => by cases h; exact PySem.W.mg_of X G aX1 | c + 2, h => by simp [nmT, Y] at h), fun x i h => (by cases h)⟩
  have xi : XinOk p l.prog w mg base Y := fun c hc fs h hne => (by
      simp only [p, Y, List.mem_cons, List.not_mem_nil, or_false] at hc
      subst hc
      · exact absurd (Option.some.inj h).symm hne)
  have D0 : DefAt p mg d0 (topS 13) f0 _ := ⟨F0, fun _ => PySem.W.mg_of X G a0, fun z => (by cases z), B0, sc0⟩
  have D1 : DefAt p mg d1 (topS 14) f1 _ := ⟨F1, fun _ => PySem.W.mg_of X G a1, fun z => (by cases z), B1, sc1⟩
  have D2 : DefAt p mg d2 (topS 15) f2 _ := ⟨F2, fun _ => PySem.W.mg_of X G a2, fun z => (by cases z), B2, sc2⟩
  have D3 : DefAt p mg d3 (topS 17) f3 _ := ⟨F3, fun _ => PySem.W.mg_of X G a3, fun z => (by cases z), B3, sc3⟩
  have D4 : DefAt p mg d4 (topS 11) f4 _ := ⟨F4, fun _ => PySem.W.mg_of X G a4, fun z => (by cases z), B4, sc4⟩
  have D5 : DefAt p mg d5 (topS 16) f5 _ := ⟨F5, fun _ => PySem.W.mg_of X G a5, fun z => (by cases z), B5, sc5⟩
  have D6 : DefAt p mg d6 (topS 7) f6 _ := ⟨F6, fun _ => PySem.W.mg_of X G a6, fun z => (by cases z), B6, sc6⟩
  have D7 : DefAt p mg d7 (topS 4) f7 _ := ⟨F7, fun _ => PySem.W.mg_of X G a7, fun z => (by cases z), B7, sc7⟩
  have D8 : DefAt p mg d8 (topS 5) f8 _ := ⟨F8, fun _ => PySem.W.mg_of X G a8, fun z => (by cases z), B8, sc8⟩
  have D9 : DefAt p mg d9 (topS 6) f9 _ := ⟨F9, fun _ => PySem.W.mg_of X G a9, fun z => (by cases z), B9, sc9⟩
  have D10 : DefAt p mg d10 (topS 9) f10 _ := ⟨F10, fun _ => PySem.W.mg_of X G a10, fun z => (by cases z), B10, sc10⟩
  have D11 : DefAt p mg d11 (topS 18) f11 _ := ⟨F11, fun _ => PySem.W.mg_of X G a11, fun z => (by cases z), B11, sc11⟩
  have D12 : DefAt p mg d12 (topS 19) fa _ := ⟨F12, fun _ => PySem.W.mg_of X G a12, fun z => (by cases z), B12, sc12⟩
  have hR : ∀ g, 2 ≤ rcL L g ∧ rcL L g ≤ 9 := rcl_of (by decide)
  have all : ∀ f d, L[f]? = some d → ∃ st adr fd, DefAt p mg d st adr fd ∧ KindOk p l.prog w mg base L f 3 d adr fd := defs_run C xi hR hb fun f d h => by
    match f, h with
    | 0, h => cases h; exact ⟨_, _, _, D0, fun fn => def_run C xi hR rfl D0 ck0 hb fn⟩
    | 1, h => cases h; exact ⟨_, _, _, D1, fun fn => def_run C xi hR rfl D1 ck1 hb fn⟩
    | 2, h => cases h; exact ⟨_, _, _, D2, fun fn => def_run C xi hR rfl D2 ck2 hb fn⟩
    | 3, h => cases h; exact ⟨_, _, _, D3, fun fn => def_run C xi hR rfl D3 ck3 hb fn⟩
    | 4, h => cases h; exact ⟨_, _, _, D4, fun fn => def_run C xi hR rfl D4 ck4 hb fn⟩
    | 5, h => cases h; exact ⟨_, _, _, D5, fun fn => def_run C xi hR rfl D5 ck5 hb fn⟩
    | 6, h => cases h; exact ⟨_, _, _, D6, fun fn => def_run C xi hR rfl D6 ck6 hb fn⟩
    | 7, h => cases h; exact ⟨_, _, _, D7, fun fn => def_run C xi hR rfl D7 ck7 hb fn⟩
    | 8, h => cases h; exact ⟨_, _, _, D8, fun fn => def_run C xi hR rfl D8 ck8 hb fn⟩
    | 9, h => cases h; exact ⟨_, _, _, D9, fun fn => def_run C xi hR rfl D9 ck9 hb fn⟩
    | 10, h => cases h; exact ⟨_, _, _, D10, fun fn => def_run C xi hR rfl D10 ck10 hb fn⟩
    | 11, h => cases h; exact ⟨_, _, _, D11, fun fn => def_run C xi hR rfl D11 ck11 hb fn⟩
    | 12, h => cases h; exact ⟨_, _, _, D12, fun fn => def_run C xi hR rfl D12 ck12 hb fn⟩
    | n + 13, h => simp [L] at h
  exact ((def_run C xi hR (f := 12) (d := d12) rfl D12 ck12 hb fun g e _ he => all g e he).1 (by decide)).1.imp (fun vs H Q E z => law_sp (p := p) (n := 1) (R := 9) rfl (by decide) pure_law vs H Q E z)
end Lw
open PySem PySem.W PyProof.Rows
set_option maxHeartbeats 0 in
theorem PySem.Challenge.cw_mixplay_k11_a_mixing_holds : PySem.Challenge.rw_mixplay_k11_a_mixing.Holds := by
  w_on; o_law; k_head; (case hw => w_witness2)
  k_fill
  refine L2.walk_of (l := PySem.Challenge.rw_mixplay_k11_a_mixing) (n := 63) (k := 27) (x := "_law_script") (CX := fun w => L2.CX PySem.Challenge.rw_mixplay_k11_a_mixing.prog w) (sp := fun w => Tr.spLaw ⟨_, 0, fun _ => 0, []⟩) rfl (by decide) rfl ⟨rfl, by decide, by decide⟩ (fun w h Y => PySem.W.kIn_of Y) ?F (fun _ _ a ns hl ho hS => ⟨a, ns, rfl, hl, Tr.ScrAt.of ho hS, fun _ => rfl⟩) (fun _ _ _ _ _ h => Tr.noCX h)
  case F =>
    intro w mg fa h KX G hmg
    refine' Lw.all_mk KX G hmg ?aX0 ?kX0 ?cX0 ?tX0 ?nX0 ?aX1 ?kX1 ?cX1 ?tX1 ?nX1 ?s1_0 ?s1_1 ?vX1 ?bX1 ?gaX1 ?ggX1 ?caX1 ?moX1 ?hdX1 ?xiX1 ?bX0 ?hdX0 ?xsp ?xtk ?a0 ?l0 ?c0 ?k0 ?a1 ?l1 ?c1 ?k1 ?a2 ?l2 ?c2 ?k2 ?a3 ?l3 ?c3 ?k3 ?a4 ?l4 ?c4 ?k4 ?a5 ?l5 ?c5 ?k5 ?a6 ?l6 ?c6 ?k6 ?a7 ?l7 ?c7 ?k7 ?a8 ?l8 ?c8 ?k8 ?a9 ?l9 ?c9 ?k9 ?a10 ?l10 ?c10 ?k10 ?a11 ?l11 ?c11 ?k11 ?a12 ?l12 ?c12 ?k12 ?z0 ?z1 ?z2 ?z3 ?z4 ?z5 ?z6 ?z7 ?z8 ?z9 ?z10 ?z11 ?z12 ?z13 ?z14 ?z15 ?z16 ?z17
    (case aX0 => k_is); (case kX0 => k_is); (case cX0 => k_is); (case tX0 => k_is); (case nX0 => k_is); (case aX1 => k_is); (case kX1 => k_is); (case cX1 => k_is)
    (case tX1 => k_is); (case nX1 => k_is); (case s1_0 => k_is); (case s1_1 => k_is); (case vX1 => k_is); (case bX1 => k_is); (case gaX1 => k_is); (case ggX1 => k_is)
    (case caX1 => k_is); (case moX1 => k_is); (case hdX1 => k_is); (case xiX1 => k_exc); (case bX0 => k_is); (case hdX0 => k_is); (case xsp => k_is); (case xtk => k_is)
    (case a0 => k_is); (case l0 => k_is); (case c0 => k_is); (case k0 => k_is); (case a1 => k_is); (case l1 => k_is); (case c1 => k_is); (case k1 => k_is)
    (case a2 => k_is); (case l2 => k_is); (case c2 => k_is); (case k2 => k_is); (case a3 => k_is); (case l3 => k_is); (case c3 => k_is); (case k3 => k_is)
    (case a4 => k_is); (case l4 => k_is); (case c4 => k_is); (case k4 => k_is); (case a5 => k_is); (case l5 => k_is); (case c5 => k_is); (case k5 => k_is)
    (case a6 => k_is); (case l6 => k_is); (case c6 => k_is); (case k6 => k_is); (case a7 => k_is); (case l7 => k_is); (case c7 => k_is); (case k7 => k_is)
    (case a8 => k_is); (case l8 => k_is); (case c8 => k_is); (case k8 => k_is); (case a9 => k_is); (case l9 => k_is); (case c9 => k_is); (case k9 => k_is)
    (case a10 => k_is); (case l10 => k_is); (case c10 => k_is); (case k10 => k_is); (case a11 => k_is); (case l11 => k_is); (case c11 => k_is); (case k11 => k_is)
    (case a12 => k_is); (case l12 => k_is); (case c12 => k_is); (case k12 => k_is); (case z0 => k_is); (case z1 => k_is); (case z2 => k_is); (case z3 => k_is)
    (case z4 => k_is); (case z5 => k_is); (case z6 => k_is); (case z7 => k_is); (case z8 => k_is); (case z9 => k_is); (case z10 => k_is); (case z11 => k_is)
    (case z12 => k_is); (case z13 => k_is); (case z14 => k_is); (case z15 => k_is); (case z16 => k_is); (case z17 => k_is)
