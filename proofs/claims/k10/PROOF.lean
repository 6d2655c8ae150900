import PyProof.Rows.All
import HandS.ForMost
import KE.DataCmp
import HandS.Wide
import HandS.TupAny
import HandS.Style
import HandS.Flow
import HandS.Deep
import HandS.TupMul
import HandS.Text
import KE.DataMinMax
import HandS.IsInst
import HandS.Zip
import KE.GoesEnumKw
import HandS.Iter
import KE.GoesEnum
import HandS.Comp
import KE.KRevSl
import PyProof.DictStraight
import PyProof.Rows.CountFlat
import PyProof.EqAt
import PyProof.EqKinds
import HandS.Codes
import HandS.Ends
import HandS.Defaults
import PyProof.ReprLen
import PySem.Challenge.RW_cardrings_k10_whole_fractions_to_purses
set_option Elab.async false
set_option linter.all false
section
set_option Elab.async false
set_option linter.all false
/-! A small language for the Python text, with a meaning as plain functions over trees of data. -/
namespace Pur
open PySem
abbrev D := PyData
abbrev Ky := L2.Key
inductive EV where
  | non | dat (d : D) | own (xs : List D) | lent (xs : List D) | loc (n : Nat)
inductive RV where
  | dat (d : D) | fresh (xs : List D) | slot (i : Nat) | loc (n : Nat)
abbrev Sto := List (List (Ky × D))
structure Sg where
  env : List EV
  sto : Sto
/-- an outcome -/
inductive O (α : Type) where
  | ok (a : α) (s : Sg) | exc (c : Nat) (fs : List D) (s : Sg) | stuck
def O.bind {α β : Type} (m : O α) (f : α → Sg → O β) : O β := match m with
  | .ok a s => f a s
  | .exc c fs s => .exc c fs s
  | .stuck => .stuck
def O.of {α : Type} (o : Option α) (s : Sg) : O α := match o with
  | some a => .ok a s
  | none => .stuck
/-- what a call gives: no slots -/
inductive OC where
  | ok (r : RV) (st : Sto) | exc (c : Nat) (fs : List D) (st : Sto) | stuck
inductive BOp where | add | sub | mul | fdiv | mod | pow
inductive COp where | eq | ne | lt | le | gt | ge | inn | nin | is | isn
inductive Bi where | len | tuple | list | repr | max | min | sum | all | any | str | int | ord
inductive Mth where | upper | count | index
inductive Ty where | int | bool | str | tuple | list
mutual
inductive Tg where
  | nm (i : Nat) | tup (ts : Tgs)
inductive Tgs where
  | nil | cons (t : Tg) (ts : Tgs)
end
mutual
inductive CE where
  | var (i : Nat)
  | lit (d : D)
  | glob (x : Str) (d : D)
  | neg (a : CE)
  | nt (a : CE)
  | and (a b : CE)
  | or (a b : CE)
  | bin (o : BOp) (a b : CE)
  | cmp (o : COp) (a b : CE)
  | chain (o p : COp) (a b c : CE)
  | ite (c a b : CE)
  | tup (es : CEs)
  | lst (es : CEs)
  | sub (a i : CE)
  | slice (a : CE) (lo hi : CEo)
  | rev (a : CE)
  | mth (m : Mth) (a : CE) (es : CEs)
  | call (f : Nat) (es ks : CEs) (how : List (Sum Nat D))
  | bi (b : Bi) (es : CEs)
  | isi (a : CE) (t : Ty)
  | dict (ks : List Ky) (es : CEs)
  | comp (tg : Tg) (vs : List Nat) (it : CI) (cond : CEs) (e : CE)
  | app (i : Nat) (e : CE)
  | ext (i : Nat) (e : CE)
inductive CEo where
  | no | yes (e : CE)
inductive CI where
  | seq (e : CE) | range (es : CEs) | enum (k : Int) (e : CE) | zip (st : Bool) (a b : CE)
inductive CEs where
  | nil | cons (e : CE) (es : CEs)
end
mutual
inductive CS where
  | asg (t : Tg) (e : CE)
  | par (ts : Tgs) (es : CEs)
  | put (o k e : CE)
  | puti (i : Nat) (k e : CE)
  | aug (i : Nat) (o : BOp) (e : CE)
  | expr (e : CE)
  | ret (e : CE)
  | retN
  | ifs (c : CE) (a b : CSs)
  | for (t : Tg) (it : CI) (b : CSs)
  | while (c : CE) (b : CSs)
  | pass
  | brk
  | cont
  | never
  | kill (vs : List Nat)
inductive CSs where
  | nil | cons (c : CS) (cs : CSs)
end
/-- how many things a list, a tuple, a text may have -/
abbrev lim : Nat := sizeLine
def Sg.res (s : Sg) : RV → Option D
  | .dat d => some d
  | .fresh xs => some (.list xs)
  | .slot i => match s.env[i]? with
    | some (.own xs) => some (.list xs)
    | some (.lent xs) => some (.list xs)
    | some (.dat d) => some d
    | _ => none
  | .loc _ => none
def RV.weak : RV → RV
  | .fresh xs => .dat (.list xs)
  | r => r
/-- a value that is kept somewhere: a list of one's own is given away by it -/
def Sg.esc (s : Sg) : RV → O RV
  | .dat d => .ok (.dat d) s
  | .fresh xs => .ok (.dat (.list xs)) s
  | .slot i => match s.env[i]? with
    | some (.own xs) => .ok (.dat (.list xs)) { s with env := s.env.set i (.dat (.list xs)) }
    | some (.dat d) => .ok (.dat d) s
    | _ => .stuck
  | .loc n => .ok (.loc n) s
def Sg.escD (s : Sg) (r : RV) : O D := (s.esc r).bind fun r s1 => match r with
  | .dat d => .ok d s1
  | _ => .stuck
def tru : D → Option Bool
  | .none => some false
  | .bool b => some b
  | .int i => some (i != 0)
  | .str x => if x.length ≤ lim then some (x.length != 0) else none
  | .list xs => some (!xs.isEmpty)
  | .tuple xs => some (!xs.isEmpty)
  | .dict _ => none
def mulOk (i j : Int) : Bool := decide (i.natAbs.log2 + j.natAbs.log2 < 1000000)
/-- so many times -/
def repD (n : Nat) (xs : List D) : List D := (List.replicate n xs).flatten
def binD : BOp → D → D → Option RV
  | .add, .int i, .int j => some (.dat (.int (i + j)))
  | .sub, .int i, .int j => some (.dat (.int (i - j)))
  | .mul, .int i, .int j => if mulOk i j then some (.dat (.int (i * j))) else none
  | .fdiv, .int i, .int j => if 0 < j ∧ j.natAbs.log2 < 9000 then some (.dat (.int (i / j))) else none
  | .mod, .int i, .int j => if 0 < j then some (.dat (.int (i % j))) else none
  | .pow, .int i, .int j => if 0 ≤ j ∧ j ≤ 1000000 ∧ i.natAbs < 2 ^ 64 then some (.dat (.int (i ^ j.toNat))) else none
  | .add, .str x, .str y => if x.length + y.length ≤ lim then some (.dat (.str (x ++ y))) else none
  | .add, .tuple xs, .tuple ys => if xs.length + ys.length ≤ lim then some (.dat (.tuple (xs ++ ys))) else none
  | .add, .list xs, .list ys => if xs.length + ys.length ≤ lim then some (.fresh (xs ++ ys)) else none
  | .mul, .list xs, .int k => if 0 ≤ k ∧ k ≤ 1000000 ∧ xs.length * k.toNat ≤ lim then some (.fresh (repD k.toNat xs)) else none
  | .mul, .tuple xs, .int k => if k = 1 then some (.dat (.tuple xs)) else if xs ≠ [] ∧ 2 ≤ k ∧ k ≤ 1000 ∧ xs.length ≤ 1000 then some (.dat (.tuple (repD k.toNat xs))) else none
  | .add, .bool b, .int j => some (.dat (.int ((if b = true then 1 else 0) + j)))
  | .sub, .bool b, .int j => some (.dat (.int ((if b = true then 1 else 0) - j)))
  | .add, .int i, .bool b => some (.dat (.int (i + if b = true then 1 else 0)))
  | .sub, .int i, .bool b => some (.dat (.int (i - if b = true then 1 else 0)))
  | _, _, _ => none
/-- may be looked at by == -/
abbrev shp (d : D) : Bool := SeqAt.shaped d
def inD (x : D) (ys : List D) : Option Bool := if shp x && shp (.list ys) then some (ys.any fun y => PyData.eqv y x) else none
def isNoneD : D → Bool
  | .none => true
  | _ => false
def isD (x y : D) : Option Bool := match x, y with
  | x, .none => some (isNoneD x)
  | .bool a, .bool b => some (a == b)
  | _, _ => none
/-- may be looked at by < -/
def ordB (x y : D) : Bool := PySem.W.alike x y && !isNoneD x && decide (x.depth ≤ 64)
def cmpD : COp → D → D → Option Bool
  | .eq, .str x, .str y => some (decide (x = y))
  | .ne, .str x, .str y => some (!decide (x = y))
  | .eq, x, y => if shp x && shp y then some (PyData.eqv x y) else none
  | .ne, x, y => if shp x && shp y then some (!PyData.eqv x y) else none
  | .lt, .int i, .int j => some (decide (i < j))
  | .le, .int i, .int j => some (decide (i ≤ j))
  | .gt, .int i, .int j => some (decide (j < i))
  | .ge, .int i, .int j => some (decide (j ≤ i))
  | .lt, x, y => if ordB x y then some (PySem.W.dataLt x y) else none
  | .gt, x, y => if ordB x y then some (PySem.W.dataLt y x) else none
  | .le, x, y => if ordB x y then some (!PySem.W.dataLt y x) else none
  | .ge, x, y => if ordB x y then some (!PySem.W.dataLt x y) else none
  | .inn, .str x, .str y => if x.length = 1 then some (decide (x.cps.getD 0 0 ∈ y.cps.toList)) else none
  | .nin, .str x, .str y => if x.length = 1 then some (!decide (x.cps.getD 0 0 ∈ y.cps.toList)) else none
  | .inn, x, .tuple ys => inD x ys
  | .inn, x, .list ys => inD x ys
  | .nin, x, .tuple ys => (inD x ys).map fun b => !b
  | .nin, x, .list ys => (inD x ys).map fun b => !b
  | .is, x, y => isD x y
  | .isn, x, y => (isD x y).map fun b => !b
  | _, _, _ => none
def subD : D → D → Option D
  | .list xs, .int i => L2.atI xs i
  | .tuple xs, .int i => L2.atI xs i
  | .str z, .int i => if z.length ≤ lim then (L2.atI z.cps.toList i).map fun c => .str ⟨#[c]⟩ else none
  | _, _ => none
def cutD (xs : List D) (lo hi : Option Int) : List D := (xs.drop (HT.sIx xs.length 0 lo)).take (HT.sIx xs.length xs.length hi - HT.sIx xs.length 0 lo)
def sliceD : D → Option Int → Option Int → Option RV
  | .tuple xs, lo, hi => some (.dat (.tuple (cutD xs lo hi)))
  | .list xs, lo, hi => some (.fresh (cutD xs lo hi))
  | .str z, lo, hi => if z.length ≤ lim then some (.dat (.str (L2.cutS z lo hi))) else none
  | _, _, _ => none
def revD : D → Option RV
  | .list xs => some (.fresh xs.reverse)
  | .tuple xs => some (.dat (.tuple xs.reverse))
  | _ => none
def boolsD : List D → Option (List Bool)
  | [] => some []
  | .bool b :: xs => (boolsD xs).map (b :: ·)
  | _ => none
def mthD : Mth → D → List D → Option D
  | .upper, .str z, [] => if z.length ≤ 5592405 then some (.str (Txt.upper z)) else none
  | .count, .list xs, [.bool k] => (boolsD xs).map fun bs => .int (bs.count k : Nat)
  | .index, .str y, [.str x] => if x.length = 1 then (y.cps.toList.findIdx? fun c => decide (c = x.cps.getD 0 0)).map fun k => .int (k : Nat) else none
  | .index, .list xs, [d] => if shp (.list xs) && shp d then (xs.findIdx? fun y => PyData.eqv y d).map fun k => .int (k : Nat) else none
  | _, _, _ => none
def intsOf : List D → Option (List Int)
  | [] => some []
  | .int i :: r => (intsOf r).map (i :: ·)
  | _ :: _ => none
def boolsOf : List D → Option (List Bool)
  | [] => some []
  | .bool i :: r => (boolsOf r).map (i :: ·)
  | _ :: _ => none
/-- repr gives its text -/
def repOk (d : D) : Bool := d.showable && !d.hasDict && decide (d.depth ≤ 100) && decide (d.shown.length ≤ lim)
def biD : Bi → List D → Option RV
  | .len, [.list xs] => some (.dat (.int xs.length))
  | .len, [.tuple xs] => some (.dat (.int xs.length))
  | .len, [.str z] => if z.length ≤ lim then some (.dat (.int z.length)) else none
  | .tuple, [.list xs] => some (.dat (.tuple xs))
  | .tuple, [.tuple xs] => some (.dat (.tuple xs))
  | .list, [.list xs] => some (.fresh xs)
  | .list, [.tuple xs] => some (.fresh xs)
  | .repr, [d] => if repOk d then some (.dat (.str d.shown)) else none
  | .max, [.int i, .int j] => some (.dat (.int (if j > i then j else i)))
  | .max, [.tuple (.int n :: xs)] => (intsOf xs).map fun ns => .dat (.int (ns.foldl max n))
  | .min, [.int i, .int j] => some (.dat (.int (if j < i then j else i)))
  | .sum, [.list xs] => (intsOf xs).map fun ns => .dat (.int ns.sum)
  | .all, [.list xs] => (boolsOf xs).map fun bs => .dat (.bool (bs.all id))
  | .any, [.list xs] => (boolsOf xs).map fun bs => .dat (.bool (bs.any id))
  | .str, [.int i] => if i.natAbs.log2 < 1920 then some (.dat (.str (toString i))) else none
  | .str, [.bool b] => some (.dat (.str (if b then "True" else "False")))
  | .int, [.int i] => some (.dat (.int i))
  | .int, [.bool b] => some (.dat (.int (if b then 1 else 0)))
  | .ord, [.str x] => if x.length = 1 then some (.dat (.int (x.cps.getD 0 0 : Nat))) else none
  | _, _ => none
def isiD : D → Ty → Bool
  | .int _, .int | .bool _, .int | .bool _, .bool | .str _, .str | .tuple _, .tuple | .list _, .list => true
  | _, _ => false
def keyD : D → Option Ky
  | .int i => some (.inl i)
  | .str x => some (.inr x)
  | _ => none
def lookK (kvs : List (Ky × D)) (k : Ky) : Option D := (kvs.find? fun kv => decide (kv.1 = k)).map (·.2)
def putKy (kvs : List (Ky × D)) (k : Ky) (v : D) : List (Ky × D) :=
  if kvs.any fun kv => decide (kv.1 = k) then kvs.map fun kv => if kv.1 = k then (kv.1, v) else kv else kvs ++ [(k, v)]
/-- a slot that may be stored to -/
def freeAt (env : List EV) (i : Nat) : Bool := match env[i]? with
  | some (.lent _) => false
  | some _ => true
  | none => false
/-- a slot that a comprehension may use -/
def looseAt (env : List EV) (i : Nat) : Bool := match env[i]? with
  | some (.lent _) => false
  | some (.own _) => false
  | some _ => true
  | none => false
mutual
def setT : Tg → D → Sg → Option Sg
  | .nm i, d, s => if freeAt s.env i then some { s with env := s.env.set i (.dat d) } else none
  | .tup ts, .tuple xs, s => setTs ts xs s
  | .tup _, _, _ => none
def setTs : Tgs → List D → Sg → Option Sg
  | .nil, [], s => some s
  | .cons t ts, d :: ds, s => match setT t d s with
    | some s1 => setTs ts ds s1
    | none => none
  | _, _, _ => none
end
def setR : Tg → RV → Sg → O Unit
  | .nm i, .fresh xs, s => if freeAt s.env i then .ok () { s with env := s.env.set i (.own xs) } else .stuck
  | .nm i, .loc n, s => if freeAt s.env i then .ok () { s with env := s.env.set i (.loc n) } else .stuck
  | .nm i, r, s => (s.escD r).bind fun d s1 => match setT (.nm i) d s1 with
    | some s2 => .ok () s2
    | none => .stuck
  | .tup ts, r, s => match s.res r with
    | some d => match setT (.tup ts) d s with
      | some s1 => .ok () s1
      | none => .stuck
    | none => .stuck
def setRs : Tgs → List RV → Sg → O Unit
  | .nil, [], s => .ok () s
  | .cons t ts, r :: rs, s => (setR t r s).bind fun _ s1 => setRs ts rs s1
  | _, _, _ => .stuck
structure Cn where
  call : Nat → List RV → Sto → OC
  fuel : Nat
def O.up (o : OC) (s : Sg) : O RV := match o with
  | .ok r st => .ok r { s with sto := st }
  | _ => .stuck
def lendE (ln : Option Nat) (env : List EV) : List EV := match ln with
  | some i => match env[i]? with
    | some (.own xs) => env.set i (.lent xs)
    | _ => env
  | none => env
def unlendE (ln : Option Nat) (env : List EV) : List EV := match ln with
  | some i => match env[i]? with
    | some (.lent xs) => env.set i (.own xs)
    | _ => env
  | none => env
def lends (s : Sg) : RV → Option Nat
  | .slot i => match s.env[i]? with
    | some (.own _) => some i
    | _ => none
  | _ => none
def wipeE (env : List EV) : List Nat → List EV
  | [] => env
  | v :: vs => (wipeE env vs).set v .non
def backE (old : List EV) (env : List EV) : List Nat → List EV
  | [] => env
  | v :: vs => (backE old env vs).set v (old.getD v .non)
def seqD : D → Option (List D)
  | .list xs => some xs
  | .tuple xs => some xs
  | .str z => some (z.cps.toList.map fun c => .str ⟨#[c]⟩)
  | _ => none
def upTo (lo : Int) : Nat → List D
  | 0 => []
  | n + 1 => .int lo :: upTo (lo + 1) n
def downTo (hi : Int) : Nat → List D
  | 0 => []
  | n + 1 => .int hi :: downTo (hi - 1) n
def okI (i : Int) : Bool := decide (-(2 ^ 62) ≤ i ∧ i < 2 ^ 62)
def rangeD : List D → Option (List D)
  | [.int j] => if okI j then some (upTo 0 j.toNat) else none
  | [.int i, .int j] => if okI i && okI j then some (upTo i (j - i).toNat) else none
  | [.int i, .int j, .int (-1)] => if okI i && okI j then some (downTo i (i - j).toNat) else none
  | _ => none
def enumD (k : Int) : List D → List D
  | [] => []
  | d :: ds => .tuple [.int k, d] :: enumD (k + 1) ds
def zipD : List D → List D → List D
  | a :: as, b :: bs => .tuple [a, b] :: zipD as bs
  | _, _ => []
def compL (f : D → Sg → O (Option D)) : List D → List D → Sg → O (List D)
  | [], acc, s => .ok acc s
  | x :: xs, acc, s => match f x s with
    | .ok none s1 => compL f xs acc s1
    | .ok (some d) s1 => if acc.length < lim then compL f xs (acc ++ [d]) s1 else .stuck
    | _ => .stuck
def argsOf (rs : List RV) : List (Sum Nat D) → Option (List RV)
  | [] => some []
  | .inl i :: r => match rs[i]?, argsOf rs r with
    | some a, some b => some (a :: b)
    | _, _ => none
  | .inr d :: r => (argsOf rs r).map (RV.dat d :: ·)
/-- the truth of a value -/
def O.tst (m : O RV) : O Bool := m.bind fun r s1 => .of ((s1.res r).bind tru) s1
mutual
def ev (C : Cn) : CE → Sg → O RV
  | .var i, s => match s.env[i]? with
    | some (.dat d) => .ok (.dat d) s
    | some (.own _) => .ok (.slot i) s
    | some (.lent _) => .ok (.slot i) s
    | some (.loc n) => .ok (.loc n) s
    | _ => .stuck
  | .lit d, s => .ok (.dat d) s
  | .glob _ d, s => .ok (.dat d) s
  | .neg a, s => (ev C a s).bind fun r s1 => match s1.res r with
    | some (.int i) => .ok (.dat (.int (-i))) s1
    | _ => .stuck
  | .nt a, s => (ev C a s).tst.bind fun k s1 => .ok (.dat (.bool !k)) s1
  | .and a b, s => (ev C a s).bind fun r s1 => match (s1.res r).bind tru with
    | some true => ev C b s1
    | some false => .ok r.weak s1
    | none => .stuck
  | .or a b, s => (ev C a s).bind fun r s1 => match (s1.res r).bind tru with
    | some true => .ok r.weak s1
    | some false => ev C b s1
    | none => .stuck
  | .bin o a b, s => (ev C a s).bind fun r s1 => (ev C b s1).bind fun q s2 => match s2.res r, s2.res q with
    | some x, some y => .of (binD o x y) s2
    | _, _ => .stuck
  | .cmp o a b, s => (ev C a s).bind fun r s1 => (ev C b s1).bind fun q s2 => match s2.res r, s2.res q with
    | some x, some y => .of ((cmpD o x y).map fun k => .dat (.bool k)) s2
    | _, _ => .stuck
  | .chain o p a b c, s => (ev C a s).bind fun r s1 => (ev C b s1).bind fun q s2 => match s2.res r, s2.res q with
    | some x, some y => match cmpD o x y with
      | some true => (ev C c s2).bind fun u s3 => match s3.res q, s3.res u with
        | some y, some z => .of ((cmpD p y z).map fun k => .dat (.bool k)) s3
        | _, _ => .stuck
      | some false => .ok (.dat (.bool false)) s2
      | none => .stuck
    | _, _ => .stuck
  | .ite c a b, s => (ev C c s).tst.bind fun k s1 => if k then ev C a s1 else ev C b s1
  | .tup es, s => (evDs C es s).bind fun ds s1 => if ds.length ≤ lim then .ok (.dat (.tuple ds)) s1 else .stuck
  | .lst es, s => (evDs C es s).bind fun ds s1 => if ds.length ≤ lim then .ok (.fresh ds) s1 else .stuck
  | .sub a i, s => (ev C a s).bind fun r s1 => (ev C i s1).bind fun q s2 => match r with
    | .loc n => match s2.sto[n]?, (s2.res q).bind keyD with
      | some kvs, some k => .of ((lookK kvs k).map .dat) s2
      | _, _ => .stuck
    | r => match s2.res r, s2.res q with
      | some x, some y => .of ((subD x y).map .dat) s2
      | _, _ => .stuck
  | .slice a lo hi, s => (ev C a s).bind fun r s1 => (evO C lo s1).bind fun l s2 => (evO C hi s2).bind fun h s3 => match s3.res r with
    | some x => .of (sliceD x l h) s3
    | none => .stuck
  | .rev a, s => (ev C a s).bind fun r s1 => match s1.res r with
    | some x => .of (revD x) s1
    | none => .stuck
  | .mth m a es, s => (ev C a s).bind fun r s1 => (evRs C es s1).bind fun rs s2 => match s2.res r, rs.mapM s2.res with
    | some x, some ds => .of ((mthD m x ds).map .dat) s2
    | _, _ => .stuck
  | .call f es ks how, s => (evKs C es s).bind fun rs s1 => (evKs C ks s1).bind fun qs s2 => match argsOf (rs ++ qs) how with
    | some as => .up (C.call f as s2.sto) s2
    | none => .stuck
  | .bi b es, s => (evRs C es s).bind fun rs s1 => match rs.mapM s1.res with
    | some ds => .of (biD b ds) s1
    | none => .stuck
  | .isi a t, s => (ev C a s).bind fun r s1 => match s1.res r with
    | some x => .ok (.dat (.bool (isiD x t))) s1
    | none => .stuck
  | .dict ks es, s => (evDs C es s).bind fun ds s1 => if ks.length = ds.length ∧ ks.length ≤ 15 then
      .ok (.loc s1.sto.length) { s1 with sto := s1.sto ++ [(ks.zip ds).foldl (fun acc kv => putKy acc kv.1 kv.2) []] } else .stuck
  | .comp tg vs it cond e, s => (evI C it s).bind fun p s1 => if !vs.all (looseAt s1.env) then .stuck else
      (compL (fun x s2 => match setT tg x s2 with
        | none => .stuck
        | some s3 => (evTs C cond s3).bind fun k s4 => if k then (ev C e s4).bind fun r s5 => (s5.escD r).bind fun d s6 => .ok (some d) { s6 with env := wipeE s6.env vs } else .ok none { s4 with env := wipeE s4.env vs })
        p.1 [] { s1 with env := wipeE (lendE p.2 s1.env) vs }).bind fun ys s7 =>
      .ok (.fresh ys) { s7 with env := unlendE p.2 (backE s1.env s7.env vs) }
  | .app i e, s => match s.env[i]? with
    | some (.own _) => (ev C e s).bind fun r s1 => (s1.escD r).bind fun d s2 => match s2.env[i]? with
      | some (.own xs) => if xs.length < lim then .ok (.dat .none) { s2 with env := s2.env.set i (.own (xs ++ [d])) } else .stuck
      | _ => .stuck
    | _ => .stuck
  | .ext i e, s => match s.env[i]? with
    | some (.own _) => (ev C e s).bind fun r s1 => match s1.res r, s1.env[i]? with
      | some (.list ys), some (.own xs) => if xs.length + ys.length ≤ lim then .ok (.dat .none) { s1 with env := s1.env.set i (.own (xs ++ ys)) } else .stuck
      | _, _ => .stuck
    | _ => .stuck
def evTs (C : Cn) : CEs → Sg → O Bool
  | .nil, s => .ok true s
  | .cons c cs, s => (ev C c s).tst.bind fun k s1 => if k then evTs C cs s1 else .ok false s1
def evO (C : Cn) : CEo → Sg → O (Option Int)
  | .no, s => .ok none s
  | .yes e, s => (ev C e s).bind fun r s1 => match s1.res r with
    | some (.int i) => .ok (some i) s1
    | _ => .stuck
def evI (C : Cn) : CI → Sg → O (List D × Option Nat)
  | .seq e, s => (ev C e s).bind fun r s1 => match (s1.res r).bind seqD with
    | some xs => if xs.length ≤ lim then .ok (xs, lends s1 r) s1 else .stuck
    | none => .stuck
  | .range es, s => (evDs C es s).bind fun ds s1 => .of ((rangeD ds).bind fun xs => if xs.length ≤ lim then some (xs, none) else none) s1
  | .enum k e, s => (ev C e s).bind fun r s1 => match s1.res r with
    | some (.list xs) => if okI k ∧ xs.length ≤ lim then .ok (enumD k xs, lends s1 r) s1 else .stuck
    | some (.tuple xs) => if okI k ∧ xs.length ≤ lim then .ok (enumD k xs, none) s1 else .stuck
    | some (.str z) => if okI k ∧ z.length ≤ lim then .ok (enumD k (z.cps.toList.map fun c => .str ⟨#[c]⟩), none) s1 else .stuck
    | _ => .stuck
  | .zip st a b, s => (ev C a s).bind fun r s1 => (s1.escD r).bind fun x s2 => (ev C b s2).bind fun q s3 => (s3.escD q).bind fun y s4 => match x, y with
    | .list xs, .list ys => if xs.length ≤ lim ∧ (st = true → False) then .ok (zipD xs ys, none) s4 else .stuck
    | .tuple xs, .tuple ys => if xs.length ≤ lim ∧ (st = true → xs.length = ys.length) then .ok (zipD xs ys, none) s4 else .stuck
    | _, _ => .stuck
def evDs (C : Cn) : CEs → Sg → O (List D)
  | .nil, s => .ok [] s
  | .cons e es, s => (ev C e s).bind fun r s1 => (s1.escD r).bind fun d s2 => (evDs C es s2).bind fun ds s3 => .ok (d :: ds) s3
def evKs (C : Cn) : CEs → Sg → O (List RV)
  | .nil, s => .ok [] s
  | .cons e es, s => (ev C e s).bind fun r s1 => (s1.esc r).bind fun d s2 => (evKs C es s2).bind fun ds s3 => .ok (d :: ds) s3
def evRs (C : Cn) : CEs → Sg → O (List RV)
  | .nil, s => .ok [] s
  | .cons e es, s => (ev C e s).bind fun r s1 => (evRs C es s1).bind fun ds s3 => .ok (r :: ds) s3
end
inductive Fl where
  | next | brk | cont | ret (r : RV)
def O.unlend {α : Type} (ln : Option Nat) : O α → O α
  | .ok a s => .ok a { s with env := unlendE ln s.env }
  | .exc c fs s => .exc c fs { s with env := unlendE ln s.env }
  | .stuck => .stuck
def forL (t : Tg) (f : Sg → O Fl) : List D → Sg → O Fl
  | [], s => .ok .next s
  | x :: xs, s => match setT t x s with
    | none => .stuck
    | some s1 => (f s1).bind fun fl s2 => match fl with
      | .next => forL t f xs s2
      | .cont => forL t f xs s2
      | .brk => .ok .next s2
      | .ret r => .ok (.ret r) s2
def whileL (c : Sg → O Bool) (f : Sg → O Fl) : Nat → Sg → O Fl
  | 0, _ => .stuck
  | n + 1, s => (c s).bind fun k s1 => if k then (f s1).bind fun fl s2 => match fl with
      | .next => whileL c f n s2
      | .cont => whileL c f n s2
      | .brk => .ok .next s2
      | .ret r => .ok (.ret r) s2
    else .ok .next s1
/-- several values, lists of one's own kept as such -/
def evPs (C : Cn) : CEs → Sg → O (List RV)
  | .nil, s => .ok [] s
  | .cons e es, s => (ev C e s).bind fun r s1 => (match r with
    | .fresh xs => O.ok (RV.fresh xs) s1
    | r => s1.esc r).bind fun q s2 => (evPs C es s2).bind fun qs s3 => .ok (q :: qs) s3
def putS (s : Sg) (o : RV) (k : D) (d : D) : O Fl := match o with
  | .loc n => match s.sto[n]?, keyD k with
    | some kvs, some ky => if kvs.length < lim then .ok .next { s with sto := s.sto.set n (putKy kvs ky d) } else .stuck
    | _, _ => .stuck
  | _ => .stuck
def augD : BOp → D → D → Option D
  | .add, .int i, .int j => some (.int (i + j))
  | .sub, .int i, .int j => some (.int (i - j))
  | .add, .tuple xs, .tuple ys => if xs.length + ys.length ≤ lim then some (.tuple (xs ++ ys)) else none
  | .add, .str xs, .str ys => if xs.length + ys.length ≤ lim then some (.str (xs ++ ys)) else none
  | _, _, _ => none
/-- an item of a list of one's own is stored -/
def putI (i : Nat) (d kd : D) (s : Sg) : O Fl := match s.env[i]?, kd with
  | some (.own xs), .int k => (match L2.ixN xs.length k with
    | some j => .ok .next { s with env := s.env.set i (.own (xs.set j d)) }
    | none => .stuck)
  | _, _ => .stuck
/-- slots are forgotten -/
def killE (env : List EV) : List Nat → List EV
  | [] => env
  | v :: vs => match env[v]? with
    | some (.lent _) => killE env vs
    | _ => killE (env.set v .non) vs
mutual
def ex (C : Cn) : CS → Sg → O Fl
  | .asg t e, s => (ev C e s).bind fun r s1 => (setR t r s1).bind fun _ s2 => .ok .next s2
  | .par ts es, s => (evPs C es s).bind fun rs s1 => (setRs ts rs s1).bind fun _ s2 => .ok .next s2
  | .put o k e, s => (ev C e s).bind fun r s1 => (s1.escD r).bind fun d s2 => (ev C o s2).bind fun q s3 => (ev C k s3).bind fun u s4 => match s4.res u with
    | some kd => putS s4 q kd d
    | none => .stuck
  | .puti i k e, s => (ev C e s).bind fun r s1 => (s1.escD r).bind fun d s2 => match s2.env[i]? with
    | some (.own _) => (ev C k s2).bind fun u s4 => (match s4.res u with
      | some kd => putI i d kd s4
      | none => .stuck)
    | _ => .stuck
  | .aug i o e, s => match s.res (.slot i) with
    | some x => (ev C e s).bind fun r s1 => match s1.res r with
      | some y => (match augD o x y with
        | some d => (match setT (.nm i) d s1 with
          | some s2 => .ok .next s2
          | none => .stuck)
        | none => .stuck)
      | none => .stuck
    | none => .stuck
  | .expr e, s => (ev C e s).bind fun _ s1 => .ok .next s1
  | .ret e, s => (ev C e s).bind fun r s1 => .ok (.ret r) s1
  | .retN, s => .ok (.ret (.dat .none)) s
  | .ifs c a b, s => (ev C c s).tst.bind fun k s1 => if k then exs C a s1 else exs C b s1
  | .for t it b, s => (evI C it s).bind fun p s1 => (forL t (exs C b) p.1 { s1 with env := lendE p.2 s1.env }).unlend p.2
  | .while c b, s => whileL (fun s => (ev C c s).tst) (exs C b) C.fuel s
  | .pass, s => .ok .next s
  | .brk, s => .ok .brk s
  | .cont, s => .ok .cont s
  | .never, _ => .stuck
  | .kill vs, s => .ok .next { s with env := killE s.env vs }
def exs (C : Cn) : CSs → Sg → O Fl
  | .nil, s => .ok .next s
  | .cons c cs, s => (ex C c s).bind fun fl s1 => match fl with
    | .next => exs C cs s1
    | fl => .ok fl s1
end
/-- a def: its parameters are the first slots -/
structure Df where
  np : Nat
  ns : Nat
  body : CSs
def evOf : RV → Option EV
  | .dat d => some (.dat d)
  | .loc n => some (.loc n)
  | _ => none
/-- what a body gives its caller; what it has made in the store is dropped, but for what it hands back -/
def fin (n0 : Nat) : O Fl → OC
  | .ok (.ret (.dat d)) s => .ok (.dat d) (s.sto.take n0)
  | .ok (.ret (.fresh xs)) s => .ok (.fresh xs) (s.sto.take n0)
  | .ok (.ret (.slot i)) s => match s.env[i]? with
    | some (.own xs) => .ok (.fresh xs) (s.sto.take n0)
    | some (.dat d) => .ok (.dat d) (s.sto.take n0)
    | _ => .stuck
  | .ok (.ret (.loc n)) s => if n < n0 then .ok (.loc n) (s.sto.take n0) else match s.sto[n]? with
    | some kvs => .ok (.loc n0) (s.sto.take n0 ++ [kvs])
    | none => .stuck
  | .ok .next s => .ok (.dat .none) (s.sto.take n0)
  | .ok _ _ => .stuck
  | .exc c fs s => .exc c fs (s.sto.take n0)
  | .stuck => .stuck
def runDf (C : Cn) (d : Df) (as : List RV) (st : Sto) : OC :=
  match as.mapM evOf with
  | some evs => if as.length = d.np ∧ d.np ≤ d.ns then fin st.length (exs C d.body ⟨evs ++ List.replicate (d.ns - d.np) .non, st⟩) else .stuck
  | none => .stuck
def callN (ds : Nat → Option Df) (fuel : Nat) : Nat → Nat → List RV → Sto → OC
  | 0, _, _, _ => .stuck
  | k + 1, f, as, st => match ds f with
    | some d => runDf ⟨callN ds fuel k, fuel⟩ d as st
    | none => .stuck
end Pur
end
section
set_option Elab.async false
set_option linter.all false
namespace Pur
open PySem L2
abbrev Fg := PySem.W.Frag
/-- the heap without some addresses -/
noncomputable def msk (H : Hp) (F : Addr → Prop) : Hp := fun a => open Classical in if F a then none else H a
theorem msk_no {H : Hp} {F : Addr → Prop} {a : Addr} (h : F a) : msk H F a = none := by unfold msk; exact if_pos h
theorem msk_yes {H : Hp} {F : Addr → Prop} {a : Addr} (h : ¬ F a) : msk H F a = H a := by unfold msk; exact if_neg h
theorem msk_some {H : Hp} {F : Addr → Prop} {a : Addr} {o : HO} (h : msk H F a = some o) : ¬ F a ∧ H a = some o := by
  by_cases f : F a
  · rw [msk_no f] at h; cases h
  · rw [msk_yes f] at h; exact ⟨f, h⟩
/-- no dict -/
def nD (o : HO) : Prop := ∀ kvs, o ≠ .dK kvs
/-- what is no dict stays -/
def Tm (M N : Hp) : Prop := ∀ a o, M a = some o → nD o → N a = some o
theorem Tm.refl {M : Hp} : Tm M M := fun _ _ h _ => h
theorem Tm.trans {M N R : Hp} (a : Tm M N) (b : Tm N R) : Tm M R := fun c o h n => b c o (a c o h n) n
theorem Tm.msk {H : Hp} {F F' : Addr → Prop} (h : ∀ a, F' a → F a) : Tm (msk H F) (msk H F') := fun a o e _ => by
  obtain ⟨n, e⟩ := msk_some e
  rw [msk_yes fun f => n (h a f)]; exact e
theorem Tm.under {H : Hp} {F : Addr → Prop} : Tm (Pur.msk H F) H := fun a o e _ => (msk_some e).2
theorem Tm.rd {M N : Hp} (t : Tm M N) {a : Addr} {o : HO} (n : nD o) (h : Rd M a o) : Rd N a o := by
  rcases h with h | ⟨ob, h⟩
  · exact .inl (t _ _ h n)
  · exact .inr ⟨ob, t _ _ h (fun kvs e => by cases e)⟩
theorem nD_lst {xs : List V} : nD (.lst xs) := fun _ e => by cases e
theorem nD_tup {xs : List V} : nD (.tup xs) := fun _ e => by cases e
theorem Tm.sqL {K : Fg} {M N : Hp} (t : Tm M N) {a : Addr} {xs : List V} (h : SqL K M a xs) : SqL K N a xs := by
  rcases h with h | h
  · exact .inl (t.rd nD_lst h)
  · exact .inr h
theorem Tm.sqT {K : Fg} {M N : Hp} (t : Tm M N) {a : Addr} {xs : List V} (h : SqT K M a xs) : SqT K N a xs := by
  rcases h with h | h
  · exact .inl (t.rd nD_tup h)
  · exact .inr h
mutual
theorem dpT {K : Fg} {M N : Hp} (t : Tm M N) : ∀ {d : D} {v : V}, Dp K M v d → Dp K N v d
  | .none, _, h => by cases h; exact .non
  | .bool _, _, h => by cases h; exact .bl _
  | .int _, _, h => by cases h; exact .int _
  | .str _, _, h => by cases h; exact .str _
  | .list ds, _, h => by
    cases h with
    | lst a b => exact .lst (t.sqL a) (daT t b)
  | .tuple ds, _, h => by
    cases h with
    | tup a b => exact .tup (t.sqT a) (daT t b)
  | .dict _, _, h => by cases h
theorem daT {K : Fg} {M N : Hp} (t : Tm M N) : ∀ {ds : List D} {vs : List V}, DpAll K M vs ds → DpAll K N vs ds
  | [], _, h => by cases h; exact .nil
  | d :: ds, _, h => by
    cases h with
    | cons a b => exact .cons (dpT t a) (daT t b)
end
theorem daLen {K : Fg} {M : Hp} : ∀ {ds : List D} {vs : List V}, DpAll K M vs ds → vs.length = ds.length
  | [], _, h => by cases h; rfl
  | d :: ds, _, h => by
    cases h with
    | cons a b => simp only [List.length_cons, daLen b]
theorem daApp {K : Fg} {M : Hp} : ∀ {ds : List D} {vs : List V} {es : List D} {us : List V}, DpAll K M vs ds → DpAll K M us es → DpAll K M (vs ++ us) (ds ++ es)
  | [], _, _, _, h, g => by cases h; exact g
  | d :: ds, _, _, _, h, g => by
    cases h with
    | cons a b => exact .cons a (daApp b g)
theorem daOne {K : Fg} {M : Hp} {d : D} {v : V} (h : Dp K M v d) : DpAll K M [v] [d] := .cons h .nil
theorem daGet {K : Fg} {M : Hp} : ∀ {ds : List D} {vs : List V} {i : Nat} {d : D}, DpAll K M vs ds → ds[i]? = some d → ∃ v, vs[i]? = some v ∧ Dp K M v d
  | [], _, _, _, _, e => by simp at e
  | d :: ds, _, 0, _, h, e => by
    cases h with
    | cons a b => simp at e; subst e; exact ⟨_, rfl, a⟩
  | d :: ds, _, i + 1, _, h, e => by
    cases h with
    | cons a b =>
      obtain ⟨v, h1, h2⟩ := daGet (i := i) b (by simpa using e)
      exact ⟨v, by simpa using h1, h2⟩
theorem daGet' {K : Fg} {M : Hp} : ∀ {ds : List D} {vs : List V} {i : Nat} {v : V}, DpAll K M vs ds → vs[i]? = some v → ∃ d, ds[i]? = some d ∧ Dp K M v d
  | [], _, _, _, h, e => by cases h; simp at e
  | d :: ds, _, 0, _, h, e => by
    cases h with
    | cons a b => simp at e; subst e; exact ⟨_, rfl, a⟩
  | d :: ds, _, i + 1, _, h, e => by
    cases h with
    | cons a b =>
      obtain ⟨v, h1, h2⟩ := daGet' (i := i) b (by simpa using e)
      exact ⟨v, by simpa using h1, h2⟩
theorem daSet {K : Fg} {M : Hp} {d : D} {v : V} (g : Dp K M v d) : ∀ {ds : List D} {vs : List V} (i : Nat), DpAll K M vs ds → DpAll K M (vs.set i v) (ds.set i d)
  | [], _, _, h => by cases h; exact .nil
  | _ :: _, _, 0, h => by
    cases h with
    | cons a b => exact .cons g b
  | _ :: _, _, i + 1, h => by
    cases h with
    | cons a b => exact .cons a (daSet g i b)
theorem daTake {K : Fg} {M : Hp} : ∀ {ds : List D} {vs : List V} (n : Nat), DpAll K M vs ds → DpAll K M (vs.take n) (ds.take n)
  | _, _, 0, _ => .nil
  | [], _, _ + 1, h => by cases h; exact .nil
  | _ :: _, _, n + 1, h => by
    cases h with
    | cons a b => exact .cons a (daTake n b)
theorem daDrop {K : Fg} {M : Hp} : ∀ {ds : List D} {vs : List V} (n : Nat), DpAll K M vs ds → DpAll K M (vs.drop n) (ds.drop n)
  | _, _, 0, h => h
  | [], _, _ + 1, h => by cases h; exact .nil
  | _ :: _, _, n + 1, h => by
    cases h with
    | cons a b => exact daDrop n b
theorem daRev {K : Fg} {M : Hp} : ∀ {ds : List D} {vs : List V}, DpAll K M vs ds → DpAll K M vs.reverse ds.reverse
  | [], _, h => by cases h; exact .nil
  | _ :: _, _, h => by
    cases h with
    | cons a b => rw [List.reverse_cons, List.reverse_cons]; exact daApp (daRev b) (daOne a)
theorem daInts {K : Fg} {M : Hp} : ∀ {ds : List D} {vs : List V} {ns : List Int}, DpAll K M vs ds → intsOf ds = some ns → vs = ns.map V.int
  | [], _, _, h, e => by cases h; cases e; rfl
  | .int i :: ds, _, ns, h, e => by
    cases h with
    | cons a b =>
      cases a
      unfold intsOf at e
      obtain ⟨m, e1, rfl⟩ := Option.map_eq_some_iff.mp e
      rw [List.map_cons, ← daInts b e1]
  | .none :: _, _, _, _, e => by cases e
  | .bool _ :: _, _, _, _, e => by cases e
  | .str _ :: _, _, _, _, e => by cases e
  | .list _ :: _, _, _, _, e => by cases e
  | .tuple _ :: _, _, _, _, e => by cases e
  | .dict _ :: _, _, _, _, e => by cases e
theorem daBools {K : Fg} {M : Hp} : ∀ {ds : List D} {vs : List V} {ns : List Bool}, DpAll K M vs ds → boolsOf ds = some ns → vs = ns.map V.bl
  | [], _, _, h, e => by cases h; cases e; rfl
  | .bool i :: ds, _, ns, h, e => by
    cases h with
    | cons a b =>
      cases a
      unfold boolsOf at e
      obtain ⟨m, e1, rfl⟩ := Option.map_eq_some_iff.mp e
      rw [List.map_cons, ← daBools b e1]
  | .none :: _, _, _, _, e => by cases e
  | .int _ :: _, _, _, _, e => by cases e
  | .str _ :: _, _, _, _, e => by cases e
  | .list _ :: _, _, _, _, e => by cases e
  | .tuple _ :: _, _, _, _, e => by cases e
  | .dict _ :: _, _, _, _, e => by cases e
/-! ### the relation of a state to slots and heap -/
/-- a list of one's own in slot i -/
def OwnAt (env : List EV) (i : Nat) (xs : List D) : Prop := env[i]? = some (EV.own xs) ∨ env[i]? = some (EV.lent xs)
/-- the addresses of the lists that are one's own -/
def ownA (env : List EV) (σ : St) (a : Addr) : Prop := ∃ (i : Nat) (xs : List D), OwnAt env i xs ∧ σ[i]? = some (some (V.ref a))
noncomputable def hid (G : Addr → Prop) (env : List EV) (σ : St) (H : Hp) : Hp := msk H fun a => G a ∨ ownA env σ a
/-- the dicts of the store -/
def KvR (K : Fg) (M : Hp) : List (Ky × V) → List (Ky × D) → Prop := Paired fun p q => p.1 = q.1 ∧ Dp K M p.2 q.2
def EvR (K : Fg) (M : Hp) (mu : List Addr) (H : Hp) (o : Option V) : EV → Prop
  | .non => True
  | .dat d => ∃ v, o = some v ∧ Dp K M v d
  | .own xs => ∃ a vs, o = some (V.ref a) ∧ H a = some (.lst vs) ∧ DpAll K M vs xs
  | .lent xs => ∃ a vs, o = some (V.ref a) ∧ H a = some (.lst vs) ∧ DpAll K M vs xs
  | .loc n => ∃ a, o = some (V.ref a) ∧ mu[n]? = some a
structure Rel (K : Fg) (G : Addr → Prop) (H0 : Hp) (mu0 mu : List Addr) (s : Sg) (σ : St) (H : Hp) : Prop where
  len : s.env.length = σ.length
  slots : ∀ (i : Nat) (e : EV), s.env[i]? = some e → ∃ o : Option V, σ[i]? = some o ∧ EvR K (hid G s.env σ H) mu H o e
  inj : ∀ (i j : Nat) (xs ys : List D) (a : Addr), OwnAt s.env i xs → OwnAt s.env j ys → σ[i]? = some (some (V.ref a)) → σ[j]? = some (some (V.ref a)) → i = j
  stl : mu.length = s.sto.length
  sto : ∀ (n : Nat) (kvs : List (Ky × D)) (a : Addr), s.sto[n]? = some kvs → mu[n]? = some a → ∃ vs, H a = some (.dK vs) ∧ KvR K (hid G s.env σ H) vs kvs
  nd : mu.Nodup
  dom : ∀ a, G a → H a ≠ none ∧ ¬ ownA s.env σ a ∧ a ∉ mu
  ext : ∀ a o, H0 a = some o → a ∉ mu0 → H a = some o
  new : ∀ a, ownA s.env σ a → H0 a = none
  pre : ∃ m, mu = mu0 ++ m ∧ ∀ a ∈ m, H0 a = none
end Pur
end
section
set_option Elab.async false
set_option linter.all false
set_option maxHeartbeats 1000000
namespace Pur
open PySem PySem.Spec PyProof.Rows L2
/-- v is the tree d: all of it in M, but the outermost list may stand in H alone -/
def RD (K : Fg) (M H : Hp) (v : V) (d : D) : Prop := Dp K M v d ∨ ∃ a vs xs, v = .ref a ∧ d = .list xs ∧ H a = some (.lst vs) ∧ DpAll K M vs xs
/-- the new value of an operation: a tree that stands, or a new tuple, a new list -/
inductive RO (K : Fg) (M H : Hp) : RV → V → Hp → Prop
  | old {d : D} {v : V} : Dp K M v d → RO K M H (.dat d) v H
  | tup {ds : List D} {vs : List V} {p : Addr} : H p = none → DpAll K M vs ds → RO K M H (.dat (.tuple ds)) (.ref p) (upd H p (.tup vs))
  | lst {ds : List D} {vs : List V} {p : Addr} : H p = none → DpAll K M vs ds → RO K M H (.fresh ds) (.ref p) (upd H p (.lst vs))
section
variable {K : Fg} {M H : Hp} {v : V}
theorem RD.dp {d : D} (t : Tm M H) (h : RD K M H v d) : Dp K H v d := by
  rcases h with h | ⟨a, vs, xs, rfl, rfl, e, g⟩
  · exact dpT t h
  · exact .lst (.of e) (daT t g)
theorem RD.int {i : Int} (h : RD K M H v (.int i)) : v = .int i := by
  rcases h with h | ⟨a, vs, xs, rfl, e, _⟩
  · cases h; rfl
  · cases e
theorem RD.bool {i : Bool} (h : RD K M H v (.bool i)) : v = .bl i := by
  rcases h with h | ⟨a, vs, xs, rfl, e, _⟩
  · cases h; rfl
  · cases e
theorem RD.str {i : Str} (h : RD K M H v (.str i)) : v = .str i := by
  rcases h with h | ⟨a, vs, xs, rfl, e, _⟩
  · cases h; rfl
  · cases e
theorem RD.none (h : RD K M H v .none) : v = .non := by
  rcases h with h | ⟨a, vs, xs, rfl, e, _⟩
  · cases h; rfl
  · cases e
theorem RD.lst {xs : List D} (t : Tm M H) (h : RD K M H v (.list xs)) : ∃ a vs, v = .ref a ∧ SqL K H a vs ∧ DpAll K M vs xs := by
  rcases h with h | ⟨a, vs, xs, rfl, e, g, q⟩
  · cases h with
    | lst a b => exact ⟨_, _, rfl, t.sqL a, b⟩
  · cases e; exact ⟨a, vs, rfl, .of g, q⟩
theorem RD.tup {xs : List D} (h : RD K M H v (.tuple xs)) : ∃ a vs, v = .ref a ∧ SqT K M a vs ∧ DpAll K M vs xs ∧ Dp K M v (.tuple xs) := by
  rcases h with h | ⟨a, vs, xs, rfl, e, g, q⟩
  · cases h with
    | tup a b => exact ⟨_, _, rfl, a, b, .tup a b⟩
  · cases e
theorem RD.nodict {kvs : List (D × D)} (h : RD K M H v (.dict kvs)) : False := by
  rcases h with h | ⟨a, vs, xs, rfl, e, g, q⟩
  · cases h
  · cases e
/-- it is the value of a thing that is no list -/
theorem RD.flat {d : D} (h : RD K M H v d) (n : ∀ xs, d ≠ .list xs) : Dp K M v d := by
  rcases h with h | ⟨a, vs, xs, rfl, e, g, q⟩
  · exact h
  · exact absurd e (n xs)
end
theorem OpR.imp {X : Cx} {f : Value → Value → Sem Value} {r r' : R2} (h : OpR X f r) (q : ∀ x y H Q, r' x y H Q → r x y H Q) : OpR X f r' :=
  fun pins s σ H x y v u Q I rx ry z => h pins s σ H x y v u Q I rx ry (q x y H Q z)
section
variable {X : Cx}
theorem Inv.plain {pins : List (Addr × Obj)} {σ : L2.St} {H : Hp} {s : Shared} {l : Addr} {xs : List V} (I : Inv X pins σ H s) (h : SqL X.K H l xs) :
    ∃ (its : List Value) (n : Nat) (sl : Array (Option Value)), Vals xs its ∧ xs.length ≤ sizeLine ∧ s.heap.get? l = some { cls := .type "list", dict := none, data := .seq its.toArray n, slots := sl } := by
  obtain ⟨its, r, ⟨o, n, e, hc, hd, hs⟩, z⟩ := I.list h
  obtain ⟨c, dd, dt, sl⟩ := o
  simp only at hc hd hs
  subst hc hd hs
  exact ⟨its, n, sl, r, z, e⟩
/-- list + list, wherever they stand -/
def rCatL (K : Fg) : R2 := fun x y H Q => ∃ l b xs zs, x = .ref l ∧ y = .ref b ∧ SqL K H l xs ∧ SqL K H b zs ∧ xs.length + zs.length ≤ sizeLine ∧ ∀ p, H p = none → Q (.ref p) (upd H p (.lst (xs ++ zs)))
theorem op_catL : OpR X (binaryOp .Add) (rCatL X.K) := by
  intro pins s σ H x y v u Q I rx ry h
  obtain ⟨l, b, xs, zs, rfl, rfl, hl, hb, hz, q⟩ := h
  cases rx
  cases ry
  obtain ⟨its, n, sl, r, z, e⟩ := Inv.plain I hl
  obtain ⟨its2, n2, sl2, r2, z2, e2⟩ := Inv.plain I hb
  have l1 := r.length
  have l2 := r2.length
  have ea : its.toArray ++ its2.toArray = (its ++ its2).toArray := by simp
  refine concat_meets ⟨_, e, rfl⟩ ⟨_, e2, rfl⟩ noFill_list_add seq_list_add PySem.F.slot_list_add PySem.F.entry_list_add (PySem.F.args_list_add_2 _ _) (list_addW l b its.toArray its2.toArray n n2 none none sl sl2 (by rw [List.size_toArray, List.size_toArray]; omega)) ⟨e, e2, ?_⟩
  rw [ea]
  exact ⟨.ref _, _, I.lnew (t' := s.toks) (r.append r2) (by rw [List.length_append]; omega), rfl, q _ I.fresh⟩
/-- list * int, wherever it stands -/
theorem foldl_repV (its : List Value) (m : Nat) : List.foldl (fun a b => a ++ b) #[] (List.replicate m its.toArray) = (List.replicate m its).flatten.toArray := by
  have key : ∀ (m : Nat) (acc : Array Value), List.foldl (fun a b => a ++ b) acc (List.replicate m its.toArray) = acc ++ (List.replicate m its).flatten.toArray := by
    intro m
    induction m with
    | zero => intro acc; simp
    | succ m ih => intro acc; rw [List.replicate_succ, List.foldl_cons, ih, List.replicate_succ, List.flatten_cons]; simp [Array.append_assoc]
  rw [key]; simp
theorem len_repV {α : Type} (xs : List α) : ∀ m : Nat, (List.replicate m xs).flatten.length = xs.length * m
  | 0 => by simp
  | m + 1 => by rw [List.replicate_succ, List.flatten_cons, List.length_append, len_repV xs m, Nat.mul_succ]; omega
theorem vals_rep {xs : List V} {us : List Value} (r : Vals xs us) : ∀ m : Nat, Vals (List.replicate m xs).flatten (List.replicate m us).flatten
  | 0 => .nil
  | m + 1 => by rw [List.replicate_succ, List.replicate_succ, List.flatten_cons, List.flatten_cons]; exact r.append (vals_rep r m)
theorem rmulW (a : Int) (t : Tok) (l : Addr) (its : Array Value) (n : Nat) (sl : Array (Option Value)) :
    Meets (Builtin.«int.__rmul__» ⟨[.int a t, .ref l], []⟩) (fun _ R s => s.heap.get? l = some { cls := .type "list", dict := none, data := .seq its n, slots := sl } ∧ R (.ok (.ret Value.notImplemented)) s) :=
  .of_wp fun prog w A R s h => by
    obtain ⟨hp, g, d, tk, os⟩ := s
    obtain ⟨hh, h⟩ := h
    wp_walk using AutoSeq1.wpAny_loadPart' hh
    exact ⟨_, rfl, h⟩
theorem mulW (l : Addr) (its : Array Value) (n : Nat) (sl : Array (Option Value)) (x : Int) (u : Tok) (c0 : ¬ (!Builtin.List.listFitsIndex x) = true) (c1 : ¬ its.size * x.toNat > (2 ^ 63 - 1) / 8) (c2 : ¬ Builtin.List.listTooLong (its.size * x.toNat) = true) :
    Meets (Builtin.«list.__mul__» ⟨[.ref l, .int x u], []⟩) (fun _ R s => s.heap.get? l = some { cls := .type "list", dict := none, data := .seq its n, slots := sl } ∧
      R (.ok (.ret (Value.ref s.heap.objs.size))) { s with heap := s.heap.push { cls := Value.type "list", data := Data.seq (List.foldl (fun x1 x2 => x1 ++ x2) #[] (List.replicate (if its.isEmpty = true then 0 else x.toNat) its)) }, toks := s.toks }) :=
  .of_wp fun prog w A R s h => by
    obtain ⟨hp, g, d, tk, os⟩ := s
    obtain ⟨hh, h⟩ := h
    have hsz := AutoListH.joined_fits c2
    wp_walk using AutoSeq1.wpAny_loadPart' hh
    refine wpAny_ite_false (decide_eq_false (Nat.not_lt.mpr hsz)) ?_
    wp_walk using AutoSeq1.wpAny_loadPart' hh
    exact ⟨_, rfl, h⟩
def rRepL (K : Fg) : R2 := fun x y H Q => ∃ l k xs, x = .ref l ∧ y = .int k ∧ SqL K H l xs ∧ 0 ≤ k ∧ k ≤ 1000000 ∧ xs.length * k.toNat ≤ sizeLine ∧ ∀ p, H p = none → Q (.ref p) (upd H p (.lst (List.replicate k.toNat xs).flatten))
theorem op_repL : OpR X (binaryOp .Mult) (rRepL X.K) := by
  intro pins s σ H x y v u Q I rx ry h
  obtain ⟨l, k, xs, rfl, rfl, hq, h0, h1, hz, q⟩ := h
  cases rx
  obtain ⟨t, rfl⟩ := ry
  obtain ⟨its, n, sl, r, z, e⟩ := Inv.plain I hq
  have hlen : its.toArray.size * k.toNat ≤ sizeLine := by rw [List.size_toArray, ← r.length]; exact hz
  have c1 : ¬ its.toArray.size * k.toNat > (2 ^ 63 - 1) / 8 := by
    have h9 : (sizeLine : Nat) ≤ (2 ^ 63 - 1) / 8 := by decide
    omega
  have c2 : ¬ (!Builtin.List.listFitsIndex k) = true := by
    rw [fitsIndex_both (by omega) (by omega)]
    exact Bool.false_ne_true
  have c3 : ¬ Builtin.List.listTooLong (its.toArray.size * k.toNat) = true := by
    rw [notLongL hlen]
    exact Bool.false_ne_true
  have hnew : List.foldl (fun x1 x2 => x1 ++ x2) #[] (List.replicate (if its.toArray.isEmpty = true then 0 else k.toNat) its.toArray) = (List.replicate k.toNat its).flatten.toArray := by
    rw [foldl_repV]
    cases its with
    | nil => simp
    | cons a r' => rw [if_neg (by simp)]
  refine wpAny_binaryOp_repeat_ref (T := "list") (U := "int") (by decide) ⟨_, e, rfl⟩ (fun s' => typeIs_int s' k t) noFill_list_mul PySem.F.fills_int_mul PySem.F.slot_int_rmul repeat_list PySem.F.slot_int_index.lookup ?_
  refine call_meets PySem.F.slot_int_rmul (typeIs_int s k t) PySem.F.entry_int_rmul (PySem.F.args_int_rmul_2 _ _) (rmulW k t l its.toArray n sl) ⟨e, rfl, ⟨_, e, rfl⟩, ?_⟩
  refine call_meets PySem.F.slot_list_mul ⟨_, e, rfl⟩ PySem.F.entry_list_mul (PySem.F.args_list_mul_2 _ _) (mulW l its.toArray n sl k t c2 c1 c3) ⟨e, ?_⟩
  rw [hnew]
  refine ⟨.ref _, _, I.lnew (t' := s.toks) (vals_rep r k.toNat) ?_, rfl, q _ I.fresh⟩
  rw [len_repV]; exact hz
theorem daRep {K : Fg} {M : Hp} {ds : List D} {vs : List V} (h : DpAll K M vs ds) : ∀ m : Nat, DpAll K M (List.replicate m vs).flatten (repD m ds)
  | 0 => .nil
  | m + 1 => by
    unfold repD
    rw [List.replicate_succ, List.replicate_succ, List.flatten_cons, List.flatten_cons]
    exact daApp h (daRep h m)
/-- t * 1 is t -/
theorem mulT1 (l : Addr) (its : Array Value) (n : Nat) (dd : Option Addr) (sl : Array (Option Value)) (u : Tok) :
    Meets (Builtin.«tuple.__mul__» ⟨[.ref l, .int 1 u], []⟩) (fun _ R s => s.heap.get? l = some { cls := .type "tuple", dict := dd, data := .seq its n, slots := sl } ∧ R (.ok (.ret (Value.ref l))) s) :=
  .of_wp fun prog w A R s h => by
    obtain ⟨hp, g, d, tk, os⟩ := s
    obtain ⟨hh, h⟩ := h
    have f1 := AutoSeq1.idx_int
    wp_walk using AutoSeq1.wpAny_loadPart' hh
    exact ⟨_, rfl, h⟩
def rRepT1 (K : Fg) : R2 := fun x y H Q => ∃ l xs, x = .ref l ∧ y = .int 1 ∧ SqT K H l xs ∧ Q (.ref l) H
theorem op_repT1 : OpR X (binaryOp .Mult) (rRepT1 X.K) := by
  intro pins s σ H x y v u Q I rx ry h
  obtain ⟨l, xs, rfl, rfl, hT, q⟩ := h
  cases rx
  obtain ⟨t, rfl⟩ := ry
  obtain ⟨its, r, ⟨⟨cls, dd, data, sl⟩, ho, hc, n, hd⟩, hs⟩ := I.tuple hT
  simp only at hc hd
  subst hc hd
  refine wpAny_binaryOp_repeat_ref (T := "tuple") (U := "int") (by decide) ⟨_, ho, rfl⟩ (fun s' => typeIs_int s' 1 t) noFill_tuple_mul PySem.F.fills_int_mul PySem.F.slot_int_rmul repeat_tuple PySem.F.slot_int_index.lookup ?_
  refine call_meets PySem.F.slot_int_rmul (typeIs_int s 1 t) PySem.F.entry_int_rmul (PySem.F.args_int_rmul_2 _ _) (int_rmul_tuple 1 t l its.toArray n dd sl) ⟨ho, rfl, ⟨_, ho, rfl⟩, ?_⟩
  exact call_meets PySem.F.slot_tuple_mul ⟨_, ho, rfl⟩ PySem.F.entry_tuple_mul (PySem.F.args_tuple_mul_2 _ _) (mulT1 l its.toArray n dd sl t) ⟨ho, .ref l, H, I, rfl, q⟩
def opOf : BOp → Operator
  | .add => .Add | .sub => .Sub | .mul => .Mult | .fdiv => .FloorDiv | .mod => .Mod | .pow => .Pow
def rBin (K : Fg) (o : BOp) : R2 := fun x y H Q => ∃ M dx dy r, Tm M H ∧ RD K M H x dx ∧ RD K M H y dy ∧ binD o dx dy = some r ∧ ∀ v H', RO K M H r v H' → Q v H'
theorem rBin_int {o : BOp} {x y : V} {H : Hp} {Q : VK} {i j : Int} {C : Int → Int → Prop} {g : Int → Int → V} (hc : C i j) (hx : x = .int i) (hy : y = .int j) (q : Q (g i j) H) : rI C g x y H Q := ⟨i, j, hx, hy, hc, q⟩
theorem op_bin (o : BOp) : OpR X (binaryOp (opOf o)) (rBin X.K o) := by
  intro pins s σ H x y v u Q I rx ry h
  obtain ⟨M, dx, dy, r, t, hx, hy, e, q⟩ := h
  unfold binD at e
  split at e
  · cases e
    exact op_add pins s σ H x y v u Q I rx ry ⟨_, _, hx.int, hy.int, q _ _ (.old (.int _))⟩
  · cases e
    exact op_sub pins s σ H x y v u Q I rx ry ⟨_, _, hx.int, hy.int, q _ _ (.old (.int _))⟩
  · split at e
    · rename_i hm
      cases e
      exact op_mulW pins s σ H x y v u Q I rx ry ⟨_, _, hx.int, hy.int, by have z := hm; unfold mulOk at z; rw [decide_eq_true_eq] at z; exact z, q _ _ (.old (.int _))⟩
    · cases e
  · split at e
    · rename_i hm
      cases e
      exact op_fdivW pins s σ H x y v u Q I rx ry ⟨_, _, hx.int, hy.int, hm, q _ _ (.old (.int _))⟩
    · cases e
  · split at e
    · rename_i hm
      cases e
      exact op_mod pins s σ H x y v u Q I rx ry ⟨_, _, hx.int, hy.int, hm, q _ _ (.old (.int _))⟩
    · cases e
  · split at e
    · rename_i hm
      cases e
      exact op_pow pins s σ H x y v u Q I rx ry ⟨_, _, hx.int, hy.int, hm, q _ _ (.old (.int _))⟩
    · cases e
  · split at e
    · rename_i hm
      cases e
      exact op_add_str pins s σ H x y v u Q I rx ry ⟨_, _, hx.str, hy.str, hm, q _ _ (.old (.str _))⟩
    · cases e
  · split at e
    · rename_i hm
      cases e
      obtain ⟨a, vs, rfl, ha, da, pa⟩ := hx.tup
      obtain ⟨b, ws, rfl, hb, db, pb⟩ := hy.tup
      have l1 := daLen da
      have l2 := daLen db
      refine op_catA pins s σ H _ _ v u Q I rx ry ⟨a, b, vs, ws, rfl, rfl, t.sqT ha, t.sqT hb, by rw [l1, l2]; exact hm, fun z => ?_, fun z1 z2 => ?_, fun _ _ p hp => q _ _ (.tup hp (daApp da db))⟩
      · subst z
        cases da
        exact q _ _ (.old pb)
      · subst z2
        cases db
        rw [List.append_nil] at q
        exact q _ _ (.old pa)
    · cases e
  · split at e
    · rename_i hm
      cases e
      obtain ⟨a, vs, rfl, ha, da⟩ := hx.lst t
      obtain ⟨b, ws, rfl, hb, db⟩ := hy.lst t
      have l1 := daLen da
      have l2 := daLen db
      exact op_catL pins s σ H _ _ v u Q I rx ry ⟨a, b, vs, ws, rfl, rfl, ha, hb, by rw [l1, l2]; exact hm, fun p hp => q _ _ (.lst hp (daApp da db))⟩
    · cases e
  · split at e
    · rename_i hm
      cases e
      obtain ⟨a, vs, rfl, ha, da⟩ := hx.lst t
      have l1 := daLen da
      exact op_repL pins s σ H _ _ v u Q I rx ry ⟨a, _, vs, rfl, hy.int, ha, hm.1, hm.2.1, by rw [l1]; exact hm.2.2, fun p hp => q _ _ (.lst hp (daRep da _))⟩
    · cases e
  · split at e
    · rename_i hm
      cases e
      subst hm
      obtain ⟨a, vs, rfl, ha, da, pa⟩ := hx.tup
      exact op_repT1 pins s σ H _ _ v u Q I rx ry ⟨a, vs, rfl, hy.int, t.sqT ha, q _ _ (.old pa)⟩
    · split at e
      · rename_i hm
        cases e
        obtain ⟨a, vs, rfl, ha, da, pa⟩ := hx.tup
        have l1 := daLen da
        refine op_repT pins s σ H _ _ v u Q I rx ry ⟨a, _, vs, rfl, hy.int, t.sqT ha, fun z => hm.1 ?_, hm.2.1, hm.2.2.1, by rw [l1]; exact hm.2.2.2, fun p hp => q _ _ (.tup hp (daRep da _))⟩
        rw [z] at l1
        exact List.eq_nil_of_length_eq_zero l1.symm
      · cases e
  · cases e
    have e1 := hx.bool
    have e2 := hy.int
    subst e1 e2
    cases rx; obtain ⟨t2, rfl⟩ := ry
    exact PySem.IntBool.add_bool_int ⟨.int _, H, I.tok _, ⟨_, rfl⟩, q _ _ (.old (.int _))⟩
  · cases e
    have e1 := hx.bool
    have e2 := hy.int
    subst e1 e2
    cases rx; obtain ⟨t2, rfl⟩ := ry
    exact PySem.IntBool.sub_bool_int ⟨.int _, H, I.tok _, ⟨_, rfl⟩, q _ _ (.old (.int _))⟩
  · cases e
    have e1 := hx.int
    have e2 := hy.bool
    subst e1 e2
    cases ry; obtain ⟨t2, rfl⟩ := rx
    exact PySem.add_int_bool ⟨.int _, H, I.tok _, ⟨_, rfl⟩, q _ _ (.old (.int _))⟩
  · cases e
    have e1 := hx.int
    have e2 := hy.bool
    subst e1 e2
    cases ry; obtain ⟨t2, rfl⟩ := rx
    exact PySem.IntBool.sub_int_bool ⟨.int _, H, I.tok _, ⟨_, rfl⟩, q _ _ (.old (.int _))⟩
  · cases e
def cOf : COp → CmpOp
  | .eq => .Eq | .ne => .NotEq | .lt => .Lt | .le => .LtE | .gt => .Gt | .ge => .GtE | .inn => .In | .nin => .NotIn | .is => .Is | .isn => .IsNot
def rCmp (K : Fg) (o : COp) : R2 := fun x y H Q => ∃ M dx dy k, Tm M H ∧ RD K M H x dx ∧ RD K M H y dy ∧ cmpD o dx dy = some k ∧ Q (.bl k) H
theorem RD.isNone {K : Fg} {M H : Hp} {v : V} {d : D} (h : RD K M H v d) : decide (v = .non) = isNoneD d := by
  rcases h with h | ⟨a, vs, xs, rfl, rfl, _⟩
  · cases h <;> rfl
  · rfl
theorem inTup (hu : X.A.units + 65 < cLine) : OpR X (compareOp .In) (fun x y H Q => ∃ d ds, Dp X.K H x d ∧ Dp X.K H y (.tuple ds) ∧ SeqAt.shaped d = true ∧ SeqAt.shaped (.list ds) = true ∧ Q (.bl (ds.any fun z => PyData.eqv z d)) H) := by
  intro pins s σ H x y v u Q I rx ry h
  obtain ⟨d, ds, hd, he, sd, se, q⟩ := h
  obtain ⟨as, r1⟩ := Dp.reads I d x v hd rx
  obtain ⟨bs, r2⟩ := Dp.reads I (.tuple ds) y u he ry
  exact SeqAt.in_tuple_reads r2 r1 (SeqAt.canLay_of_shaped (d := .list ds) se) (SeqAt.canLay_of_shaped sd) (room_in_shaped sd hu) ⟨.bl _, H, I, rfl, q⟩
theorem notInTup (hu : X.A.units + 65 < cLine) : OpR X (compareOp .NotIn) (fun x y H Q => ∃ d ds, Dp X.K H x d ∧ Dp X.K H y (.tuple ds) ∧ SeqAt.shaped d = true ∧ SeqAt.shaped (.list ds) = true ∧ Q (.bl (!ds.any fun z => PyData.eqv z d)) H) := by
  intro pins s σ H x y v u Q I rx ry h
  obtain ⟨d, ds, hd, he, sd, se, q⟩ := h
  obtain ⟨as, r1⟩ := Dp.reads I d x v hd rx
  obtain ⟨bs, r2⟩ := Dp.reads I (.tuple ds) y u he ry
  exact SeqAt.notIn_tuple_reads r2 r1 (SeqAt.canLay_of_shaped (d := .list ds) se) (SeqAt.canLay_of_shaped sd) (room_in_shaped sd hu) ⟨.bl _, H, I, rfl, q⟩
theorem inD_some {x : D} {ys : List D} {k : Bool} (e : inD x ys = some k) : SeqAt.shaped x = true ∧ SeqAt.shaped (.list ys) = true ∧ k = ys.any fun y => PyData.eqv y x := by
  unfold inD at e
  split at e
  · rename_i h
    rw [Bool.and_eq_true] at h
    cases e
    exact ⟨h.1, h.2, rfl⟩
  · cases e
theorem str_one {x : Str} (h : x.length = 1) : x = ⟨#[x.cps.getD 0 0]⟩ := by
  obtain ⟨⟨l⟩⟩ := x
  have h : l.length = 1 := h
  match l, h with
  | [c], _ => rfl
theorem ordB_some {x y : D} (h : ordB x y = true) : PySem.W.alike x y = true ∧ x ≠ .none ∧ x.depth ≤ 64 := by
  unfold ordB at h
  rw [Bool.and_eq_true, Bool.and_eq_true, decide_eq_true_eq] at h
  refine ⟨h.1.1, fun z => ?_, h.2⟩
  rw [z] at h
  exact absurd h.1.2 (by decide)
theorem op_cmp (hu : X.A.units + 65 < cLine) (o : COp) : OpR X (compareOp (cOf o)) (rCmp X.K o) := by
  intro pins s σ H x y v u Q I rx ry h
  obtain ⟨M, dx, dy, k, t, hx, hy, e, q⟩ := h
  unfold cmpD at e
  split at e
  · cases e
    refine op_eq pins s σ H x y v u Q I rx ry ?_
    rw [hx.str, hy.str]
    refine ⟨rfl, ?_⟩
    rw [show decide (V.str _ = V.str _) = decide (_ = _) from decide_eq_decide.mpr ⟨fun z => V.str.inj z, fun z => by rw [z]⟩]
    exact q
  · cases e
    refine op_ne pins s σ H x y v u Q I rx ry ?_
    rw [hx.str, hy.str]
    refine ⟨rfl, ?_⟩
    rw [show decide (V.str _ = V.str _) = decide (_ = _) from decide_eq_decide.mpr ⟨fun z => V.str.inj z, fun z => by rw [z]⟩]
    exact q
  · split at e
    · rename_i h
      rw [Bool.and_eq_true] at h
      cases e
      exact op_eqD (by omega) pins s σ H x y v u Q I rx ry ⟨_, _, hx.dp t, hy.dp t, h.1, h.2, q⟩
    · cases e
  · split at e
    · rename_i h
      rw [Bool.and_eq_true] at h
      cases e
      exact op_neD (by omega) pins s σ H x y v u Q I rx ry ⟨_, _, hx.dp t, hy.dp t, h.1, h.2, q⟩
    · cases e
  · cases e
    exact op_lt pins s σ H x y v u Q I rx ry ⟨_, _, hx.int, hy.int, q⟩
  · cases e
    exact op_le pins s σ H x y v u Q I rx ry ⟨_, _, hx.int, hy.int, q⟩
  · cases e
    exact op_gt pins s σ H x y v u Q I rx ry ⟨_, _, hx.int, hy.int, q⟩
  · cases e
    exact op_ge pins s σ H x y v u Q I rx ry ⟨_, _, hx.int, hy.int, q⟩
  · split at e
    · rename_i h
      cases e
      obtain ⟨q1, q2, q3⟩ := ordB_some h
      obtain ⟨as, r1⟩ := Dp.reads I _ x v (hx.dp t) rx
      obtain ⟨bs, r2⟩ := Dp.reads I _ y u (hy.dp t) ry
      exact PySem.W.lt_data r1 r2 q1 q2 (by omega) ⟨.bl _, H, I, rfl, q⟩
    · cases e
  · split at e
    · rename_i h
      cases e
      obtain ⟨q1, q2, q3⟩ := ordB_some h
      obtain ⟨as, r1⟩ := Dp.reads I _ x v (hx.dp t) rx
      obtain ⟨bs, r2⟩ := Dp.reads I _ y u (hy.dp t) ry
      exact PySem.W.gt_data r1 r2 q1 q2 (by omega) ⟨.bl _, H, I, rfl, q⟩
    · cases e
  · split at e
    · rename_i h
      cases e
      obtain ⟨q1, q2, q3⟩ := ordB_some h
      obtain ⟨as, r1⟩ := Dp.reads I _ x v (hx.dp t) rx
      obtain ⟨bs, r2⟩ := Dp.reads I _ y u (hy.dp t) ry
      exact PySem.W.le_data r1 r2 q1 q2 (by omega) ⟨.bl _, H, I, rfl, q⟩
    · cases e
  · split at e
    · rename_i h
      cases e
      obtain ⟨q1, q2, q3⟩ := ordB_some h
      obtain ⟨as, r1⟩ := Dp.reads I _ x v (hx.dp t) rx
      obtain ⟨bs, r2⟩ := Dp.reads I _ y u (hy.dp t) ry
      exact PySem.W.ge_data r1 r2 q1 q2 (by omega) ⟨.bl _, H, I, rfl, q⟩
    · cases e
  · split at e
    · rename_i h
      cases e
      have hx := hx.str
      rw [str_one h] at hx
      exact op_in_sign pins s σ H x y v u Q I rx ry ⟨_, _, hx, hy.str, q⟩
    · cases e
  · split at e
    · rename_i h
      cases e
      have hx := hx.str
      rw [str_one h] at hx
      exact op_notIn_sign pins s σ H x y v u Q I rx ry ⟨_, _, hx, hy.str, q⟩
    · cases e
  · obtain ⟨h1, h2, rfl⟩ := inD_some e
    exact inTup hu pins s σ H x y v u Q I rx ry ⟨_, _, hx.dp t, hy.dp t, h1, h2, q⟩
  · obtain ⟨h1, h2, rfl⟩ := inD_some e
    exact op_inD hu pins s σ H x y v u Q I rx ry ⟨_, _, hx.dp t, hy.dp t, h1, h2, q⟩
  · obtain ⟨b, e1, rfl⟩ := Option.map_eq_some_iff.mp e
    obtain ⟨h1, h2, rfl⟩ := inD_some e1
    exact notInTup hu pins s σ H x y v u Q I rx ry ⟨_, _, hx.dp t, hy.dp t, h1, h2, q⟩
  · obtain ⟨b, e1, rfl⟩ := Option.map_eq_some_iff.mp e
    obtain ⟨h1, h2, rfl⟩ := inD_some e1
    exact op_notInD hu pins s σ H x y v u Q I rx ry ⟨_, _, hx.dp t, hy.dp t, h1, h2, q⟩
  · unfold isD at e
    split at e
    · cases e
      refine op_isN pins s σ H x y v u Q I rx ry ⟨hy.none, ?_⟩
      rw [hx.isNone]; exact q
    · cases e
      refine op_isBl pins s σ H x y v u Q I rx ry ⟨_, _, hx.bool, hy.bool, ?_⟩
      rw [← Bool.beq_eq_decide_eq]; exact q
    · cases e
  · obtain ⟨b, e1, rfl⟩ := Option.map_eq_some_iff.mp e
    unfold isD at e1
    split at e1
    · cases e1
      refine op_notN pins s σ H x y v u Q I rx ry ⟨hy.none, ?_⟩
      rw [hx.isNone]; exact q
    · cases e1
      refine op_notBl pins s σ H x y v u Q I rx ry ⟨_, _, hx.bool, hy.bool, ?_⟩
      rw [← Bool.beq_eq_decide_eq]; exact q
    · cases e1
  · cases e
/-! ### items, slices -/
theorem atI_rel {K : Fg} {M : Hp} {ds : List D} {vs : List V} (g : DpAll K M vs ds) {i : Int} {d : D} (e : atI ds i = some d) : ∃ v, atI vs i = some v ∧ Dp K M v d := by
  unfold atI at e ⊢
  rw [daLen g]
  cases q : ixN ds.length i with
  | none => rw [q] at e; cases e
  | some j =>
    rw [q] at e
    exact daGet g e
def rSub (K : Fg) : R2 := fun x y H Q => ∃ M dx dy d, Tm M H ∧ RD K M H x dx ∧ RD K M H y dy ∧ subD dx dy = some d ∧ ∀ v, Dp K M v d → Q v H
theorem ix_sub : IxR X (rSub X.K) := by
  intro va sc pins s σ H x y v u Q I rx ry h hs
  obtain ⟨M, dx, dy, d, t, hx, hy, e, q⟩ := h
  unfold subD at e
  split at e
  · obtain ⟨a, vs, rfl, ha, da⟩ := hx.lst t
    obtain ⟨w, e1, e2⟩ := atI_rel da e
    exact ix_list va sc pins s σ H _ y v u Q I rx ry ⟨a, vs, _, w, rfl, hy.int, ha, e1, q _ e2⟩ hs
  · obtain ⟨a, vs, rfl, ha, da, _⟩ := hx.tup
    obtain ⟨w, e1, e2⟩ := atI_rel da e
    exact ix_tup va sc pins s σ H _ y v u Q I rx ry ⟨a, vs, _, w, rfl, hy.int, t.sqT ha, e1, q _ e2⟩ hs
  · split at e
    · rename_i hm
      obtain ⟨c, e1, rfl⟩ := Option.map_eq_some_iff.mp e
      exact ix_str va sc pins s σ H _ y v u Q I rx ry ⟨_, _, c, hx.str, hy.int, hm, e1, q _ (.str _)⟩ hs
    · cases e
  · cases e
theorem cut_rel {K : Fg} {M : Hp} {ds : List D} {vs : List V} (g : DpAll K M vs ds) (lo hi : Option Int) : DpAll K M (cutV vs lo hi) (cutD ds lo hi) := by
  unfold cutV cutD
  rw [daLen g]
  exact daTake _ (daDrop _ g)
theorem cut_whole {ds : List D} {lo hi : Option Int} (h : HT.sIx ds.length 0 lo = 0 ∧ HT.sIx ds.length ds.length hi = ds.length) : cutD ds lo hi = ds := by
  unfold cutD
  rw [h.1, h.2, List.drop_zero, Nat.sub_zero, List.take_length]
def rSlice (K : Fg) : V → Option Int → Option Int → Hp → VK → Prop := fun x lo hi H Q => ∃ M dx r, Tm M H ∧ RD K M H x dx ∧ sliceD dx lo hi = some r ∧ ∀ v H', RO K M H r v H' → Q v H'
theorem sl_slice : SlR X (rSlice X.K) := by
  intro pins s σ H x v vl vu lo hi sl Q I rx hs pl pu h
  obtain ⟨M, dx, r, t, hx, e, q⟩ := h
  unfold sliceD at e
  split at e
  · cases e
    obtain ⟨a, vs, rfl, ha, da, pa⟩ := hx.tup
    have l1 := daLen da
    refine sl_tupA pins s σ H _ v vl vu _ _ sl Q I rx hs pl pu ⟨a, vs, rfl, t.sqT ha, fun hw => ?_, fun _ p hp => q _ _ (.tup hp (cut_rel da _ _))⟩
    rw [l1] at hw
    rw [cut_whole hw] at q
    exact q _ _ (.old pa)
  · cases e
    obtain ⟨a, vs, rfl, ha, da⟩ := hx.lst t
    exact sl_list pins s σ H _ v vl vu _ _ sl Q I rx hs pl pu ⟨a, vs, rfl, ha, fun p hp => q _ _ (.lst hp (cut_rel da _ _))⟩
  · split at e
    · rename_i hm
      cases e
      exact sl_str pins s σ H _ v vl vu _ _ sl Q I rx hs pl pu ⟨_, hx.str, hm, q _ _ (.old (.str _))⟩
    · cases e
  · cases e
/-! ### truth -/
theorem tru_rel {K : Fg} {M H : Hp} {v : V} {d : D} {k : Bool} (t : Tm M H) (h : RD K M H v d) (e : tru d = some k) : TruV K v H k := by
  cases d with
  | none => cases e; rw [h.none]; rfl
  | bool b => cases e; rw [h.bool]; rfl
  | int i => cases e; rw [h.int]; rfl
  | str x =>
    simp only [tru] at e
    split at e
    · rename_i hm
      cases e
      rw [h.str]
      refine ⟨hm, ?_⟩
      cases q : x.length with
      | zero => rfl
      | succ n => exact (bne_iff_ne.mpr (by simp)).trans (bne_iff_ne.mpr (by omega)).symm
    · cases e
  | list xs =>
    cases e
    obtain ⟨a, vs, rfl, ha, da⟩ := h.lst t
    refine .inl ⟨vs, ha, ?_⟩
    cases da <;> rfl
  | tuple xs =>
    cases e
    obtain ⟨a, vs, rfl, ha, da, _⟩ := h.tup
    refine .inr (.inl ⟨vs, t.sqT ha, ?_⟩)
    cases da <;> rfl
  | dict _ => cases e
/-! ### built-in functions -/
def RDs (K : Fg) (M H : Hp) : List V → List D → Prop
  | [], [] => True
  | v :: vs, d :: ds => RD K M H v d ∧ RDs K M H vs ds
  | _, _ => False
theorem RDs.one {K : Fg} {M H : Hp} : ∀ {vs : List V} {d : D}, RDs K M H vs [d] → ∃ v, vs = [v] ∧ RD K M H v d
  | [v], _, h => ⟨v, rfl, h.1⟩
  | [], _, h => h.elim
  | _ :: _ :: _, _, h => h.2.elim
theorem RDs.two {K : Fg} {M H : Hp} : ∀ {vs : List V} {d e : D}, RDs K M H vs [d, e] → ∃ v u, vs = [v, u] ∧ RD K M H v d ∧ RD K M H u e
  | [v, u], _, _, h => ⟨v, u, rfl, h.1, h.2.1⟩
  | [], _, _, h => h.elim
  | [_], _, _, h => h.2.elim
  | _ :: _ :: _ :: _, _, _, h => h.2.2.elim
def biV : Bi → Value
  | .len => .builtin "len" | .tuple => .type "tuple" | .list => .type "list" | .repr => .builtin "repr" | .max => .builtin "max" | .min => .builtin "min" | .sum => .builtin "sum"
  | .all => .builtin "all" | .any => .builtin "any" | .str => .type "str" | .int => .type "int" | .ord => .builtin "ord"
def rBi (K : Fg) (b : Bi) : List V → Hp → VK → Prop := fun xs H Q => ∃ M ds r, Tm M H ∧ RDs K M H xs ds ∧ biD b ds = some r ∧ ∀ v H', RO K M H r v H' → Q v H'
theorem call_reprD (hg : X.A.guards = some []) (hu : X.A.units + 120 < cLine) : CallR X (.builtin "repr") (fun xs H Q => ∃ x d, xs = [x] ∧ Dp X.K H x d ∧ repOk d = true ∧ Q (.str d.shown) H) := by
  intro pins s σ H xs us Q I r h
  obtain ⟨x, d, rfl, hd, ok, q⟩ := h
  obtain ⟨u, rfl, rx⟩ := vals1 r
  obtain ⟨as, rr⟩ := Dp.reads I d x u hd rx
  unfold repOk at ok
  simp only [Bool.and_eq_true, decide_eq_true_eq, Bool.not_eq_true'] at ok
  obtain ⟨⟨⟨o1, o2⟩, o3⟩, o4⟩ := ok
  have hh : d.hasDict = true → sysModules ∉ as := fun z => by rw [o2] at z; cases z
  cases d with
  | none => cases hd; cases rx; exact PySem.P.repr_of_none ⟨.str _, H, I.tok _, ⟨_, rfl⟩, q⟩
  | bool b => cases hd; cases rx; exact PySem.P.repr_of_bool ⟨.str _, H, I.tok _, ⟨_, rfl⟩, q⟩
  | int i =>
    cases hd
    obtain ⟨t, rfl⟩ := rx
    refine PySem.P.repr_of_int ?_ ⟨.str _, H, I.tok _, ⟨_, rfl⟩, q⟩
    unfold PyData.showable at o1
    exact of_decide_eq_true o1
  | str x =>
    cases hd
    obtain ⟨t, rfl⟩ := rx
    refine PySem.P.repr_of_str ⟨.str _, H, I.tok _, ⟨_, rfl⟩, q⟩ ?_
    exact o4
  | list xs =>
    cases hd with
    | lst ha da =>
      cases rx
      exact repr_of_reads' rr o1 hh hg (by omega) (fun _ _ e => e) (fun h' u tk hk => ⟨.str _, H, I.kept hk, ⟨_, rfl⟩, q⟩) o4
  | tuple xs =>
    cases hd with
    | tup ha da =>
      cases rx
      exact repr_of_reads' rr o1 hh hg (by omega) (fun _ _ e => e) (fun h' u tk hk => ⟨.str _, H, I.kept hk, ⟨_, rfl⟩, q⟩) o4
  | dict _ => cases hd
theorem intsOf_eq : ∀ {xs : List D} {ns : List Int}, intsOf xs = some ns → xs = ns.map .int
  | [], ns, e => by cases e; rfl
  | .int i :: r, ns, e => by
    rw [intsOf] at e
    obtain ⟨ms, e1, rfl⟩ := Option.map_eq_some_iff.mp e
    rw [List.map_cons, intsOf_eq e1]
  | .none :: _, _, e => by cases e
  | .bool _ :: _, _, e => by cases e
  | .str _ :: _, _, e => by cases e
  | .list _ :: _, _, e => by cases e
  | .tuple _ :: _, _, e => by cases e
  | .dict _ :: _, _, e => by cases e
theorem depth_ints : ∀ ns : List Int, PyData.depthAll (ns.map .int) = 0
  | [] => rfl
  | n :: ns => by simp only [List.map_cons, PyData.depthAll, PyData.depth, depth_ints ns]; rfl
theorem alike_ints (ns : List Int) : PySem.W.AlikeAll (ns.map .int) := by
  refine ⟨fun x hx y hy => ?_, fun x hx => ?_⟩
  · obtain ⟨i, _, rfl⟩ := List.mem_map.mp hx
    obtain ⟨j, _, rfl⟩ := List.mem_map.mp hy
    rfl
  · obtain ⟨i, _, rfl⟩ := List.mem_map.mp hx
    exact fun z => by cases z
/-- max(t) of a tuple of ints -/
theorem cr_maxT (hc : X.calm = true) (hu : X.A.units + 65 < cLine) : CallR X (.builtin "max") (fun vs H Q => ∃ (v : V) (n : Int) (ns : List Int), vs = [v] ∧ Dp X.K H v (.tuple (.int n :: ns.map .int)) ∧ Q (.int (ns.foldl max n)) H) := by
  intro pins s σ H vs us Q I r h
  obtain ⟨v, n, ns, rfl, hd, q⟩ := h
  obtain ⟨u, rfl, ru⟩ := vals1 r
  obtain ⟨as, rr⟩ := Dp.reads I _ v u hd ru
  cases rr with
  | tuple e1 e2 e3 ra =>
    have dz := depth_ints (n :: ns)
    rw [List.map_cons] at dz
    refine PySem.W.max_tuple_data (I.ok.hd hc) ⟨_, e1, e2, _, e3⟩ ra (alike_ints (n :: ns)) (by rw [dz]; omega) fun i w h' tk bs _ rw' hk => ?_
    rw [PySem.W.maxD_ints] at rw'
    cases rw'
    exact ⟨.int _, H, I.kept (t' := tk) hk, ⟨_, rfl⟩, q⟩
theorem call_bi (hc : X.calm = true) (hg : X.A.guards = some []) (hu : X.A.units + 120 < cLine) (b : Bi) : CallR X (biV b) (rBi X.K b) := by
  intro pins s σ H xs us Q I r h
  obtain ⟨M, ds, rv, t, hx, e, q⟩ := h
  unfold biD at e
  split at e
  · cases e
    obtain ⟨v, rfl, hv⟩ := hx.one
    obtain ⟨a, vs, rfl, ha, da⟩ := hv.lst t
    refine call_len pins s σ H _ us Q I r ⟨_, _, rfl, .inl ⟨vs, ha, (daLen da).symm⟩, q _ _ (.old (.int _))⟩
  · cases e
    obtain ⟨v, rfl, hv⟩ := hx.one
    obtain ⟨a, vs, rfl, ha, da, _⟩ := hv.tup
    refine call_len pins s σ H _ us Q I r ⟨_, _, rfl, .inr ⟨vs, t.sqT ha, (daLen da).symm⟩, q _ _ (.old (.int _))⟩
  · split at e
    · rename_i hm
      cases e
      obtain ⟨v, rfl, hv⟩ := hx.one
      rw [hv.str] at r
      exact call_len pins s σ H _ us Q I r ⟨_, _, rfl, ⟨hm, rfl⟩, q _ _ (.old (.int _))⟩
    · cases e
  · cases e
    obtain ⟨v, rfl, hv⟩ := hx.one
    obtain ⟨a, vs, rfl, ha, da⟩ := hv.lst t
    exact call_tuple_of pins s σ H _ us Q I r ⟨a, vs, rfl, .inl ⟨ha, fun p hp => q _ _ (.tup hp da)⟩⟩
  · cases e
    obtain ⟨v, rfl, hv⟩ := hx.one
    obtain ⟨a, vs, rfl, ha, da, pa⟩ := hv.tup
    exact call_tuple_of pins s σ H _ us Q I r ⟨a, vs, rfl, .inr ⟨t.sqT ha, q _ _ (.old pa)⟩⟩
  · cases e
    obtain ⟨v, rfl, hv⟩ := hx.one
    obtain ⟨a, vs, rfl, ha, da⟩ := hv.lst t
    exact call_list_of pins s σ H _ us Q I r ⟨a, vs, rfl, .inl ha, fun p hp => q _ _ (.lst hp da)⟩
  · cases e
    obtain ⟨v, rfl, hv⟩ := hx.one
    obtain ⟨a, vs, rfl, ha, da, pa⟩ := hv.tup
    exact call_list_of pins s σ H _ us Q I r ⟨a, vs, rfl, .inr (t.sqT ha), fun p hp => q _ _ (.lst hp da)⟩
  · split at e
    · rename_i hm
      cases e
      obtain ⟨v, rfl, hv⟩ := hx.one
      exact call_reprD hg hu pins s σ H _ us Q I r ⟨_, _, rfl, hv.dp t, hm, q _ _ (.old (.str _))⟩
    · cases e
  · cases e
    obtain ⟨v, w, rfl, hv, hw⟩ := hx.two
    rw [hv.int, hw.int] at r
    exact call_max2 hc pins s σ H _ us Q I r ⟨_, _, rfl, q _ _ (.old (.int _))⟩
  · obtain ⟨ns, e1, rfl⟩ := Option.map_eq_some_iff.mp e
    obtain ⟨v, rfl, hv⟩ := hx.one
    have hd := hv.dp t
    rw [intsOf_eq e1] at hd
    exact cr_maxT hc (by omega) pins s σ H _ us Q I r ⟨v, _, ns, rfl, hd, q _ _ (.old (.int _))⟩
  · cases e
    obtain ⟨v, w, rfl, hv, hw⟩ := hx.two
    rw [hv.int, hw.int] at r
    exact call_min2 hc pins s σ H _ us Q I r ⟨_, _, rfl, q _ _ (.old (.int _))⟩
  · obtain ⟨ns, e1, rfl⟩ := Option.map_eq_some_iff.mp e
    obtain ⟨v, rfl, hv⟩ := hx.one
    obtain ⟨a, vs, rfl, ha, da⟩ := hv.lst t
    rw [daInts da e1] at ha
    exact cr_sum hc pins s σ H _ us Q I r ⟨a, ns, rfl, ha, q _ _ (.old (.int _))⟩
  · obtain ⟨ns, e1, rfl⟩ := Option.map_eq_some_iff.mp e
    obtain ⟨v, rfl, hv⟩ := hx.one
    obtain ⟨a, vs, rfl, ha, da⟩ := hv.lst t
    rw [daBools da e1] at ha
    exact cr_all hc pins s σ H _ us Q I r ⟨a, ns, rfl, ha, q _ _ (.old (.bl _))⟩
  · obtain ⟨ns, e1, rfl⟩ := Option.map_eq_some_iff.mp e
    obtain ⟨v, rfl, hv⟩ := hx.one
    obtain ⟨a, vs, rfl, ha, da⟩ := hv.lst t
    rw [daBools da e1] at ha
    exact cr_any hc pins s σ H _ us Q I r ⟨a, ns, rfl, ha, q _ _ (.old (.bl _))⟩
  · split at e
    · rename_i hm
      cases e
      obtain ⟨v, rfl, hv⟩ := hx.one
      rw [hv.int] at r
      exact call_str_int pins s σ H _ us Q I r ⟨_, rfl, hm, q _ _ (.old (.str _))⟩
    · cases e
  · cases e
    obtain ⟨v, rfl, hv⟩ := hx.one
    rw [hv.bool] at r
    obtain ⟨u, rfl, ru⟩ := vals1 r
    cases ru
    exact PySem.P.str_of_bool ⟨.str _, H, I.tok _, ⟨_, rfl⟩, q _ _ (.old (.str _))⟩
  · cases e
    obtain ⟨v, rfl, hv⟩ := hx.one
    rw [hv.int] at r
    exact call_int1 pins s σ H _ us Q I r (.inl ⟨_, rfl, q _ _ (.old (.int _))⟩)
  · cases e
    obtain ⟨v, rfl, hv⟩ := hx.one
    rw [hv.bool] at r
    exact call_int1 pins s σ H _ us Q I r (.inr ⟨_, rfl, q _ _ (.old (.int _))⟩)
  · split at e
    · rename_i hm
      cases e
      obtain ⟨v, rfl, hv⟩ := hx.one
      rw [hv.str] at r
      exact call_ord pins s σ H _ us Q I r ⟨_, rfl, hm, q _ _ (.old (.int _))⟩
    · cases e
  · cases e
end
end Pur
end
section
set_option Elab.async false
set_option linter.all false
set_option maxHeartbeats 1000000
namespace Pur
open PySem PySem.Spec L2
abbrev St := L2.St
section
variable {K : Fg} {G G' : Addr → Prop} {H0 H H' : Hp} {mu0 mu mu' : List Addr} {s s' : Sg} {σ : St} {v : V}
theorem hid_le {env : List EV} : Tm (hid G env σ H) H := Tm.under
theorem hid_mono {env : List EV} (h : ∀ a, G a → G' a) : Tm (hid G' env σ H) (hid G env σ H) := Tm.msk fun a z => z.elim (fun q => .inl (h a q)) .inr
theorem hid_some {env : List EV} {a : Addr} {o : HO} (h : hid G env σ H a = some o) : ¬ G a ∧ ¬ ownA env σ a ∧ H a = some o := by
  obtain ⟨n, e⟩ := msk_some h
  exact ⟨fun z => n (.inl z), fun z => n (.inr z), e⟩
theorem hid_yes {env : List EV} {a : Addr} (h1 : ¬ G a) (h2 : ¬ ownA env σ a) : hid G env σ H a = H a := msk_yes fun z => z.elim h1 h2
theorem EvR.mono {M M' : Hp} {o : Option V} {e : EV} (t : Tm M M') (hh : ∀ a xs, o = some (V.ref a) → e = .own xs ∨ e = .lent xs → H' a = H a) (hm : ∀ (n : Nat) a, mu[n]? = some a → mu'[n]? = some a) (h : EvR K M mu H o e) : EvR K M' mu' H' o e := by
  cases e with
  | non => trivial
  | dat d => obtain ⟨v, e1, e2⟩ := h; exact ⟨v, e1, dpT t e2⟩
  | own xs => obtain ⟨a, vs, e1, e2, e3⟩ := h; exact ⟨a, vs, e1, (hh a xs e1 (.inl rfl)).trans e2, daT t e3⟩
  | lent xs => obtain ⟨a, vs, e1, e2, e3⟩ := h; exact ⟨a, vs, e1, (hh a xs e1 (.inr rfl)).trans e2, daT t e3⟩
  | loc n => obtain ⟨a, e1, e2⟩ := h; exact ⟨a, e1, hm n a e2⟩
theorem KvR.tm {M M' : Hp} (t : Tm M M') : ∀ {vs : List (Ky × V)} {kvs : List (Ky × D)}, KvR K M vs kvs → KvR K M' vs kvs
  | _, _, .nil => .nil
  | _, _, .cons r q => .cons ⟨r.1, dpT t r.2⟩ (KvR.tm t q)
/-- one's own lists stand -/
theorem Rel.ownH (R : Rel K G H0 mu0 mu s σ H) {a : Addr} (h : ownA s.env σ a) : ∃ vs, H a = some (.lst vs) := by
  obtain ⟨i, xs, e, z⟩ := h
  rcases e with e | e
  · obtain ⟨o, e1, b, vs, e2, e3, _⟩ := R.slots i _ e
    rw [z] at e1; cases e1; cases e2; exact ⟨vs, e3⟩
  · obtain ⟨o, e1, b, vs, e2, e3, _⟩ := R.slots i _ e
    rw [z] at e1; cases e1; cases e2; exact ⟨vs, e3⟩
theorem Rel.noOwn (R : Rel K G H0 mu0 mu s σ H) {p : Addr} (h : H p = none) : ¬ ownA s.env σ p := fun z => by
  obtain ⟨vs, e⟩ := R.ownH z
  rw [h] at e; cases e
theorem Rel.noG (R : Rel K G H0 mu0 mu s σ H) {p : Addr} (h : H p = none) : ¬ G p := fun z => (R.dom p z).1 h
theorem Rel.muH (R : Rel K G H0 mu0 mu s σ H) {n : Nat} {a : Addr} (h : mu[n]? = some a) : ∃ kvs vs, s.sto[n]? = some kvs ∧ H a = some (.dK vs) ∧ KvR K (hid G s.env σ H) vs kvs := by
  obtain ⟨hn, _⟩ := List.getElem?_eq_some_iff.mp h
  have hn' : n < s.sto.length := by rw [← R.stl]; exact hn
  obtain ⟨vs, e1, e2⟩ := R.sto n _ a (List.getElem?_eq_getElem hn') h
  exact ⟨_, vs, List.getElem?_eq_getElem hn', e1, e2⟩
theorem Rel.noMu (R : Rel K G H0 mu0 mu s σ H) {p : Addr} (h : H p = none) : p ∉ mu := fun z => by
  obtain ⟨n, hn, rfl⟩ := List.mem_iff_getElem.mp z
  obtain ⟨_, vs, _, e, _⟩ := R.muH (List.getElem?_eq_getElem hn)
  rw [h] at e; cases e
/-- fewer addresses are hidden -/
theorem Rel.less (R : Rel K G' H0 mu0 mu s σ H) (h : ∀ a, G a → G' a) : Rel K G H0 mu0 mu s σ H where
  len := R.len
  slots := fun i e q => let ⟨o, e1, e2⟩ := R.slots i e q; ⟨o, e1, EvR.mono (hid_mono h) (fun _ _ _ _ => rfl) (fun _ _ z => z) e2⟩
  inj := R.inj
  stl := R.stl
  sto := fun n kvs a e1 e2 => let ⟨vs, q1, q2⟩ := R.sto n kvs a e1 e2; ⟨vs, q1, KvR.tm (hid_mono h) q2⟩
  nd := R.nd
  dom := fun a z => R.dom a (h a z)
  ext := R.ext
  new := R.new
  pre := R.pre
/-- the heap changes where nothing of ours stands -/
theorem Rel.heap (R : Rel K G H0 mu0 mu s σ H) (hG : ∀ a, G' a → H' a ≠ none ∧ ¬ ownA s.env σ a ∧ a ∉ mu) (t : Tm (hid G s.env σ H) (hid G' s.env σ H')) (ho : ∀ a, ownA s.env σ a → H' a = H a) (hm : ∀ a ∈ mu, H' a = H a) (he : ∀ a o, H0 a = some o → a ∉ mu0 → H a = some o → H' a = some o) :
    Rel K G' H0 mu0 mu s σ H' where
  len := R.len
  slots := fun i e q => by
    obtain ⟨o, e1, e2⟩ := R.slots i e q
    refine ⟨o, e1, EvR.mono t (fun a xs z1 z2 => ho a ?_) (fun _ _ z => z) e2⟩
    subst z1
    rcases z2 with z | z
    · subst z; exact ⟨i, xs, .inl q, e1⟩
    · subst z; exact ⟨i, xs, .inr q, e1⟩
  inj := R.inj
  stl := R.stl
  sto := fun n kvs a e1 e2 => by
    obtain ⟨vs, q1, q2⟩ := R.sto n kvs a e1 e2
    exact ⟨vs, (hm a (List.mem_of_getElem? e2)).trans q1, KvR.tm t q2⟩
  nd := R.nd
  dom := hG
  ext := fun a o e n => he a o e n (R.ext a o e n)
  new := R.new
  pre := R.pre
/-- G and one address -/
def add1 (G : Addr → Prop) (p : Addr) : Addr → Prop := fun a => G a ∨ a = p
theorem tm_new {env : List EV} {p : Addr} {o : HO} (hp : H p = none) : Tm (hid G env σ H) (hid (add1 G p) env σ (upd H p o)) := fun a u e n => by
  obtain ⟨g, w, e⟩ := hid_some e
  have ne : a ≠ p := ne_of_none e hp
  rw [hid_yes (fun z => z.elim g ne) w, upd_ne ne]; exact e
/-- a new object, not yet shared -/
theorem Rel.new1 (R : Rel K G H0 mu0 mu s σ H) {p : Addr} {o : HO} (hp : H p = none) : Rel K (add1 G p) H0 mu0 mu s σ (upd H p o) := by
  refine R.heap (fun a z => ?_) (tm_new hp) (fun a z => ?_) (fun a z => ?_) (fun a u e1 _ e2 => ?_)
  · rcases z with z | z
    · obtain ⟨h1, h2⟩ := R.dom a z
      refine ⟨?_, h2⟩
      by_cases q : a = p
      · subst q; rw [upd_same]; exact fun w => by cases w
      · rw [upd_ne q]; exact h1
    · subst z
      exact ⟨(by rw [upd_same]; intro w; cases w), R.noOwn hp, R.noMu hp⟩
  · obtain ⟨vs, e⟩ := R.ownH z
    exact upd_ne (ne_of_none e hp)
  · obtain ⟨n, hn, rfl⟩ := List.mem_iff_getElem.mp z
    obtain ⟨_, vs, _, e, _⟩ := R.muH (List.getElem?_eq_getElem hn)
    exact upd_ne (ne_of_none e hp)
  · rw [upd_ne (ne_of_none e2 hp)]; exact e2
end
/-- one step on: the state goes on, nothing that others hold is turned -/
structure Nx (K : Fg) (G : Addr → Prop) (H0 : Hp) (mu0 : List Addr) (mu : List Addr) (s : Sg) (σ : St) (H : Hp) (mu' : List Addr) (s' : Sg) (σ' : St) (H' : Hp) : Prop where
  rel : Rel K G H0 mu0 mu' s' σ' H'
  pre : ∃ m, mu' = mu ++ m
  tm : Tm (hid G s.env σ H) (hid G s'.env σ' H')
  dom : ∀ a, H a ≠ none → H' a ≠ none
  gk : ∀ a, G a → H' a = H a
  lk : ∀ (i : Nat) (xs : List D), s.env[i]? = some (EV.lent xs) → s'.env[i]? = some (EV.lent xs) ∧ ∀ a, σ[i]? = some (some (V.ref a)) → σ'[i]? = some (some (V.ref a)) ∧ H' a = H a
section
variable {K : Fg} {G G' : Addr → Prop} {H0 H H' H1 H2 : Hp} {mu0 mu mu' mu1 mu2 : List Addr} {s s' s1 s2 : Sg} {σ σ' σ1 σ2 : St} {v : V}
theorem Nx.refl (R : Rel K G H0 mu0 mu s σ H) : Nx K G H0 mu0 mu s σ H mu s σ H := ⟨R, ⟨[], by simp⟩, Tm.refl, fun _ h => h, fun _ _ => rfl, fun _ _ h => ⟨h, fun _ z => ⟨z, rfl⟩⟩⟩
theorem Nx.trans (a : Nx K G H0 mu0 mu s σ H mu1 s1 σ1 H1) (b : Nx K G H0 mu0 mu1 s1 σ1 H1 mu2 s2 σ2 H2) : Nx K G H0 mu0 mu s σ H mu2 s2 σ2 H2 :=
  ⟨b.rel, let ⟨m, e⟩ := a.pre; let ⟨n, e'⟩ := b.pre; ⟨m ++ n, by rw [e', e, List.append_assoc]⟩, a.tm.trans b.tm, fun c h => b.dom c (a.dom c h), fun c h => (b.gk c h).trans (a.gk c h), fun i xs h => let ⟨h1, h2⟩ := a.lk i xs h; let ⟨h3, h4⟩ := b.lk i xs h1; ⟨h3, fun c z => let ⟨z1, z2⟩ := h2 c z; let ⟨z3, z4⟩ := h4 c z1; ⟨z3, z4.trans z2⟩⟩⟩
theorem Nx.muN (a : Nx K G H0 mu0 mu s σ H mu1 s1 σ1 H1) {n : Nat} {x : Addr} (h : mu[n]? = some x) : mu1[n]? = some x := by
  obtain ⟨m, rfl⟩ := a.pre
  obtain ⟨hn, _⟩ := List.getElem?_eq_some_iff.mp h
  rw [List.getElem?_append_left hn]; exact h
/-- what a value of the small language is in the machine -/
def RVr (K : Fg) (G : Addr → Prop) (H0 : Hp) (mu0 : List Addr) (σ : St) (Hb : Hp) (mu : List Addr) (s : Sg) (H : Hp) : RV → V → Prop
  | .dat d, v => Dp K (hid G s.env σ H) v d
  | .slot i, v => σ[i]? = some (some v)
  | .loc n, v => ∃ a, v = .ref a ∧ mu[n]? = some a
  | .fresh xs, v => ∃ a vs, v = .ref a ∧ Hb a = none ∧ H a = some (.lst vs) ∧ ¬ G a ∧ DpAll K (hid (add1 G a) s.env σ H) vs xs ∧ Rel K (add1 G a) H0 mu0 mu s σ H
/-- the same, a list not known to be new -/
def RVw (K : Fg) (G : Addr → Prop) (σ : St) (mu : List Addr) (s : Sg) (H : Hp) : RV → V → Prop
  | .dat d, v => Dp K (hid G s.env σ H) v d
  | .slot i, v => σ[i]? = some (some v)
  | .loc n, v => ∃ a, v = .ref a ∧ mu[n]? = some a
  | .fresh xs, v => Dp K (hid G s.env σ H) v (.list xs)
theorem RVr.w {Hb : Hp} : ∀ {r : RV}, RVr K G H0 mu0 σ Hb mu s H r v → RVw K G σ mu s H r v
  | .dat _, h => h
  | .slot _, h => h
  | .loc _, h => h
  | .fresh xs, ⟨a, vs, e, _, eH, nG, da, R⟩ => by
    subst e
    have t : Tm (hid (add1 G a) s.env σ H) (hid G s.env σ H) := hid_mono fun _ z => .inl z
    refine .lst (xs := vs) (.of ?_) (daT t da)
    rw [hid_yes nG (R.dom a (.inr rfl)).2.1]; exact eH
theorem RVr.back {Hb Hc : Hp} (d : ∀ a, Hc a ≠ none → Hb a ≠ none) : ∀ {r : RV}, RVr K G H0 mu0 σ Hb mu s H r v → RVr K G H0 mu0 σ Hc mu s H r v
  | .dat _, h => h
  | .slot _, h => h
  | .loc _, h => h
  | .fresh xs, ⟨a, vs, e, q, r⟩ => ⟨a, vs, e, by
      cases z : Hc a with
      | none => rfl
      | some u => exact absurd q (d a (by rw [z]; exact fun w => by cases w)), r⟩
theorem RVw.keep (nx : Nx K G H0 mu0 mu s σ H mu1 s1 σ H1) : ∀ {r : RV}, RVw K G σ mu s H r v → RVw K G σ mu1 s1 H1 r v
  | .dat _, h => dpT nx.tm h
  | .slot _, h => h
  | .loc _, ⟨a, e, q⟩ => ⟨a, e, nx.muN q⟩
  | .fresh xs, h => dpT nx.tm h
/-- what a value is as a tree -/
theorem RVw.res (R : Rel K G H0 mu0 mu s σ H) {d : D} : ∀ {r : RV}, RVw K G σ mu s H r v → s.res r = some d → RD K (hid G s.env σ H) H v d
  | .dat _, h, e => by cases e; exact .inl h
  | .fresh xs, h, e => by cases e; exact .inl h
  | .loc _, h, e => by cases e
  | .slot i, h, e => by
    unfold Sg.res at e
    simp only at e
    have h : σ[i]? = some (some v) := h
    split at e
    · rename_i xs q
      cases e
      obtain ⟨o, e1, a, vs, e2, e3, e4⟩ := R.slots i _ q
      rw [h] at e1; cases e1; cases e2
      exact .inr ⟨a, vs, xs, rfl, rfl, e3, e4⟩
    · rename_i xs q
      cases e
      obtain ⟨o, e1, a, vs, e2, e3, e4⟩ := R.slots i _ q
      rw [h] at e1; cases e1; cases e2
      exact .inr ⟨a, vs, xs, rfl, rfl, e3, e4⟩
    · rename_i d q
      cases e
      obtain ⟨o, e1, w, e2, e3⟩ := R.slots i _ q
      rw [h] at e1; cases e1; cases e2
      exact .inl e3
    · cases e
/-- an operation's new value -/
theorem RO.nx (R : Rel K G H0 mu0 mu s σ H) {r : RV} (h : RO K (hid G s.env σ H) H r v H') : Nx K G H0 mu0 mu s σ H mu s σ H' ∧ RVr K G H0 mu0 σ H mu s H' r v := by
  cases h with
  | old h => exact ⟨.refl R, h⟩
  | @tup ds vs p hp da =>
    have R1 := R.new1 (o := .tup vs) hp
    have t := tm_new (G := G) (env := s.env) (σ := σ) (o := HO.tup vs) hp
    have t2 : Tm (hid (add1 G p) s.env σ (upd H p (.tup vs))) (hid G s.env σ (upd H p (.tup vs))) := hid_mono fun _ z => .inl z
    refine ⟨⟨R1.less fun _ z => .inl z, ⟨[], by simp⟩, t.trans t2, fun a z => ?_, fun a z => upd_ne fun e => R.noG hp (e ▸ z), fun i xs h => ⟨h, fun a z => ⟨z, upd_ne fun (e : a = p) => R.noOwn hp (e ▸ ⟨i, xs, .inr h, z⟩)⟩⟩⟩, .tup (.of ?_) (daT (t.trans t2) da)⟩
    · by_cases q : a = p
      · subst q; rw [upd_same]; exact fun w => by cases w
      · rw [upd_ne q]; exact z
    · rw [hid_yes (R.noG hp) (R.noOwn hp), upd_same]
  | @lst ds vs p hp da =>
    have R1 := R.new1 (o := .lst vs) hp
    have t := tm_new (G := G) (env := s.env) (σ := σ) (o := HO.lst vs) hp
    have t2 : Tm (hid (add1 G p) s.env σ (upd H p (.lst vs))) (hid G s.env σ (upd H p (.lst vs))) := hid_mono fun _ z => .inl z
    refine ⟨⟨R1.less fun _ z => .inl z, ⟨[], by simp⟩, t.trans t2, fun a z => ?_, fun a z => upd_ne fun e => R.noG hp (e ▸ z), fun i xs h => ⟨h, fun a z => ⟨z, upd_ne fun (e : a = p) => R.noOwn hp (e ▸ ⟨i, xs, .inr h, z⟩)⟩⟩⟩, ⟨p, vs, rfl, hp, upd_same, R.noG hp, daT t da, R1⟩⟩
    by_cases q : a = p
    · subst q; rw [upd_same]; exact fun w => by cases w
    · rw [upd_ne q]; exact z
end
end Pur
end
section
set_option Elab.async false
set_option linter.all false
set_option maxHeartbeats 1000000
namespace Pur
open PySem PySem.Spec L2
/-- what is wanted where an exception comes: of the class, its fields, the state, the slots, the heap -/
abbrev Xw := (Addr → Prop) → Hp → List Addr → Nat → List D → List Addr → Sg → St → Hp → Prop
abbrev Rvt (α β : Type) := Hp → List Addr → Sg → Hp → α → β → Prop
def Post (W : Xw) (K : Fg) (G : Addr → Prop) (H0 : Hp) (mu0 : List Addr) (σ : St) {α β : Type} (Rv : Rvt α β) (mu : List Addr) (s : Sg) (H : Hp) (o : O α) (Q : β → Hp → Prop) : Prop :=
  match o with
  | .ok a s' => ∀ b mu' H', Nx K G H0 mu0 mu s σ H mu' s' σ H' → Rv H mu' s' H' a b → Q b H'
  | .exc c fs s' => ∀ mu' H', Nx K G H0 mu0 mu s σ H mu' s' σ H' → W G H0 mu0 c fs mu' s' σ H'
  | .stuck => False
/-- a relation that asks no more of an earlier heap -/
def Bk {α β : Type} (Rv : Rvt α β) : Prop := ∀ Hb Hc mu s H a b, (∀ x, Hc x ≠ none → Hb x ≠ none) → Rv Hb mu s H a b → Rv Hc mu s H a b
section
variable {W : Xw} {K : Fg} {G : Addr → Prop} {H0 H H1 : Hp} {mu0 mu mu1 : List Addr} {s s1 : Sg} {σ : St} {α β γ δ : Type} {Rv : Rvt α β} {R2 : Rvt γ δ}
theorem Post.imp {o : O α} {Q Q' : β → Hp → Prop} (h : Post W K G H0 mu0 σ Rv mu s H o Q) (q : ∀ b H', Q b H' → Q' b H') : Post W K G H0 mu0 σ Rv mu s H o Q' := by
  cases o with
  | ok a s' => exact fun b mu' H' nx rv => q b H' (h b mu' H' nx rv)
  | exc c fs s' => exact h
  | stuck => exact h
theorem Post.on {o : O α} {Q : β → Hp → Prop} (bk : Bk Rv) (nx : Nx K G H0 mu0 mu s σ H mu1 s1 σ H1) (h : Post W K G H0 mu0 σ Rv mu s H o Q) : Post W K G H0 mu0 σ Rv mu1 s1 H1 o Q := by
  cases o with
  | ok a s' => exact fun b mu' H' nx' rv => h b mu' H' (nx.trans nx') (bk _ _ _ _ _ _ _ nx.dom rv)
  | exc c fs s' => exact fun mu' H' nx' => h mu' H' (nx.trans nx')
  | stuck => exact h
theorem Post.bind {m : O α} {f : α → Sg → O γ} {Q : δ → Hp → Prop} (bk : Bk R2) (h : Post W K G H0 mu0 σ R2 mu s H (m.bind f) Q) :
    Post W K G H0 mu0 σ Rv mu s H m (fun b H' => ∃ a mu' s', m = .ok a s' ∧ Nx K G H0 mu0 mu s σ H mu' s' σ H' ∧ Rv H mu' s' H' a b ∧ Post W K G H0 mu0 σ R2 mu' s' H' (f a s') Q) := by
  cases m with
  | ok a s' => exact fun b mu' H' nx rv => ⟨a, mu', s', rfl, nx, rv, Post.on bk nx h⟩
  | exc c fs s' => exact h
  | stuck => exact h
/-- a step that does nothing in the machine -/
theorem Post.pure {a : α} {b : β} {Q : β → Hp → Prop} (R : Rel K G H0 mu0 mu s σ H) (h : Post W K G H0 mu0 σ Rv mu s H (.ok a s) Q) (r : Rv H mu s H a b) : Q b H := h b mu H (.refl R) r
end
/-- a value -/
abbrev RvE (K : Fg) (G : Addr → Prop) (H0 : Hp) (mu0 : List Addr) (σ : St) : Rvt RV V := RVr K G H0 mu0 σ
theorem bkE {K : Fg} {G : Addr → Prop} {H0 : Hp} {mu0 : List Addr} {σ : St} : Bk (RvE K G H0 mu0 σ) := fun _ _ _ _ _ _ _ d h => RVr.back d h
/-- a plain answer -/
abbrev RvP {α : Type} : Rvt α α := fun _ _ _ _ a b => b = a
theorem bkP {α : Type} : Bk (RvP (α := α)) := fun _ _ _ _ _ _ _ _ h => h
/-- trees -/
abbrev RvD (K : Fg) (G : Addr → Prop) (σ : St) : Rvt (List D) (List V) := fun _ _ s H ds vs => DpAll K (hid G s.env σ H) vs ds
theorem bkD {K : Fg} {G : Addr → Prop} {σ : St} : Bk (RvD K G σ) := fun _ _ _ _ _ _ _ _ h => h
/-- arguments -/
def RVs (K : Fg) (G : Addr → Prop) (σ : St) (mu : List Addr) (s : Sg) (H : Hp) : List RV → List V → Prop := Paired fun r v => RVw K G σ mu s H r v
abbrev RvK (K : Fg) (G : Addr → Prop) (σ : St) : Rvt (List RV) (List V) := fun _ mu s H rs vs => RVs K G σ mu s H rs vs
theorem bkK {K : Fg} {G : Addr → Prop} {σ : St} : Bk (RvK K G σ) := fun _ _ _ _ _ _ _ _ h => h
/-- the reading of an expression -/
def tE (W : Xw) (K : Fg) (C : Cn) (c : CE) : TE := fun σ H Q => ∃ G H0 mu0 mu s, Rel K G H0 mu0 mu s σ H ∧ Post W K G H0 mu0 σ (RvE K G H0 mu0 σ) mu s H (ev C c s) Q
def tT (W : Xw) (K : Fg) (C : Cn) (c : CE) : TT := fun σ H Q => ∃ G H0 mu0 mu s, Rel K G H0 mu0 mu s σ H ∧ Post W K G H0 mu0 σ RvP mu s H (ev C c s).tst Q
theorem PE_imp {X : Cx} {e : Expr} {t t' : TE} (h : PE X e t) (q : ∀ σ H Q, t' σ H Q → t σ H Q) : PE X e t' := ⟨fun pins s σ H Q I z => h.run pins s σ H Q I (q σ H Q z)⟩
theorem PT_imp {X : Cx} {e : Expr} {t t' : TT} (h : PT X e t) (q : ∀ σ H Q, t' σ H Q → t σ H Q) : PT X e t' := ⟨fun pins s σ H Q I z => h.run pins s σ H Q I (q σ H Q z)⟩
theorem PA_imp {X : Cx} {e : List Expr} {t t' : TA} (h : PA X e t) (q : ∀ σ H Q, t' σ H Q → t σ H Q) : PA X e t' := ⟨fun pos pins s σ H Q I z => h.run pos pins s σ H Q I (q σ H Q z)⟩
/-- a way to call a def: how many values, the keywords' names, where the parameters' values come from -/
abbrev Shp := Nat × List Str × List (Sum Nat D)
/-- what is known, statically, of names -/
structure Nm where
  N : List Str
  sc : Scope
  fn : List (Nat × Str × List Shp)
  gl : List (Str × D)
  bl : List Str
  blk : Option Scope
def visB (sc : Scope) (x : Str) : Bool := match sc.names.lookup x with
  | some .local => true
  | some .cell => true
  | some .free => true
  | _ => false
theorem visB_ok {sc : Scope} {x : Str} (h : visB sc x = true) : Vis sc x := by
  unfold visB at h
  split at h
  · rename_i e; exact .inl e
  · rename_i e; exact .inr (.inl e)
  · rename_i e; exact .inr (.inr e)
  · cases h
def locB (sc : Scope) (x : Str) : Bool := match sc.names.lookup x with
  | some .local => true
  | some .cell => true
  | _ => false
theorem locB_ok {sc : Scope} {x : Str} (h : locB sc x = true) : Loc sc x := by
  unfold locB at h
  split at h
  · rename_i e; exact .inl e
  · rename_i e; exact .inr e
  · cases h
/-- a name that may be stored to -/
def stB (N : Nm) (x : Str) : Bool := match N.sc.names.lookup x with
  | some .local => true
  | some .cell => match N.blk with
    | none => true
    | some b => b.names.lookup x == some .cell
  | _ => false
def glB (sc : Scope) (x : Str) : Bool := decide (sc.names.lookup x = some .globalImplicit)
def dbg (x : Str) : Bool := !(x == ("__debug__" : Str)) && !(x == ("__classdict__" : Str))
def nmOk (N : Nm) (i : Nat) (x : Str) : Bool := decide (N.N[i]? = some x) && visB N.sc x && dbg x
/-- what is wanted of an exception is not more where more is hidden -/
def Wm (W : Xw) : Prop := ∀ (G G' : Addr → Prop) H0 mu0 c fs mu s σ H, (∀ a, G a → G' a) → W G H0 mu0 c fs mu s σ H → W G' H0 mu0 c fs mu s σ H
/-- what is asked of the place where an expression stands -/
structure XOk (X : Cx) (W : Xw) (C : Cn) (N : Nm) : Prop where
  nm : X.N = N.N
  sc : X.env.scope = N.sc
  nd : X.N.Nodup
  calm : X.calm = true
  gd : X.A.guards = some []
  un : X.A.units + 120 < cLine
  wm : Wm W
  st : ∀ x, stB N x = true → Loc X.env.scope x ∧ (X.fn x = true ∨ X.env.scope.names.lookup x = some .local)
  gl : ∀ x d, (x, d) ∈ N.gl → ∃ v u, X.mg x = some u ∧ RelV v u ∧ ∀ H, Dp X.K H v d
section
variable {X : Cx} {W : Xw} {C : Cn} {N : Nm}
theorem dbg_ok {x : Str} (h : dbg x = true) : (x == ("__debug__" : Str)) = false ∧ (x == ("__classdict__" : Str)) = false := by
  unfold dbg at h
  rw [Bool.and_eq_true, Bool.not_eq_true', Bool.not_eq_true'] at h
  exact h
theorem s_var (ok : XOk X W C N) {i : Nat} {x : Str} {pos : Pos} (h : nmOk N i x = true) : PE X (.Name x pos) (tE W X.K C (.var i)) := by
  unfold nmOk at h
  rw [Bool.and_eq_true, Bool.and_eq_true, decide_eq_true_eq] at h
  obtain ⟨⟨h1, h2⟩, h3⟩ := h
  obtain ⟨d1, d2⟩ := dbg_ok h3
  refine PE_imp (pe_var (i := i) (by rw [ok.nm]; exact h1) (by rw [ok.sc]; exact visB_ok h2) d1 d2) fun σ H Q ⟨G, H0, mu0, mu, s, R, h⟩ => ?_
  unfold ev at h
  split at h
  · rename_i d q
    obtain ⟨o, e1, v, e2, e3⟩ := R.slots i _ q
    subst e2
    exact ⟨v, e1, h.pure R e3⟩
  · rename_i d q
    obtain ⟨o, e1, a, vs, e2, e3, e4⟩ := R.slots i _ q
    subst e2
    exact ⟨_, e1, h.pure R e1⟩
  · rename_i d q
    obtain ⟨o, e1, a, vs, e2, e3, e4⟩ := R.slots i _ q
    subst e2
    exact ⟨_, e1, h.pure R e1⟩
  · rename_i d q
    obtain ⟨o, e1, a, e2, e3⟩ := R.slots i _ q
    subst e2
    exact ⟨_, e1, h.pure R ⟨a, rfl, e3⟩⟩
  · exact h.elim
def chkC : D → Const → Bool
  | .none, .none => true
  | .bool a, .bool b => decide (a = b)
  | .int a, .int b => decide (a = b)
  | .str a, .str b => decide (a = b)
  | _, _ => false
theorem s_lit {d : D} {c : Const} {k : Nat} {pos : Pos} (h : chkC d c = true) : PE X (.Constant c k pos) (tE W X.K C (.lit d)) := by
  unfold chkC at h
  split at h
  · exact PE_imp pe_non fun σ H Q ⟨G, H0, mu0, mu, s, R, h⟩ => h.pure R .non
  · rw [decide_eq_true_eq] at h; subst h
    exact PE_imp pe_bl fun σ H Q ⟨G, H0, mu0, mu, s, R, h⟩ => h.pure R (.bl _)
  · rw [decide_eq_true_eq] at h; subst h
    exact PE_imp pe_int fun σ H Q ⟨G, H0, mu0, mu, s, R, h⟩ => h.pure R (.int _)
  · rw [decide_eq_true_eq] at h; subst h
    exact PE_imp pe_str fun σ H Q ⟨G, H0, mu0, mu, s, R, h⟩ => h.pure R (.str _)
  · cases h
theorem s_glob (ok : XOk X W C N) {g : D} {x : Str} {pos : Pos} (h1 : (x, g) ∈ N.gl) (h2 : glB N.sc x = true) (h3 : dbg x = true) : PE X (.Name x pos) (tE W X.K C (.glob x g)) := by
  obtain ⟨v, u, e1, e2, e3⟩ := ok.gl x g h1
  unfold glB at h2
  rw [decide_eq_true_eq] at h2
  refine PE_imp (pe_glob (show X.env.scope.names.lookup x = _ by rw [ok.sc]; exact h2) e1 e2 (dbg_ok h3).1) fun σ H Q ⟨G, H0, mu0, mu, s, R, h⟩ => ?_
  exact h.pure R (e3 _)
theorem s_neg {a : CE} {e : Expr} {pos : Pos} (ha : PE X e (tE W X.K C a)) : PE X (.UnaryOp .USub e pos) (tE W X.K C (.neg a)) := by
  refine PE_imp (pe_un un_neg ha) fun σ H Q ⟨G, H0, mu0, mu, s, R, h⟩ => ⟨G, H0, mu0, mu, s, R, ?_⟩
  unfold ev at h
  refine (Post.bind (Rv := RvE X.K G H0 mu0 σ) bkE h).imp fun v H1 ⟨r, mu1, s1, _, nx, rv, h⟩ => ?_
  split at h
  · rename_i i q
    have e := (rv.w.res nx.rel q).int
    exact ⟨i, e, h.pure nx.rel (.int _)⟩
  · exact h.elim
/-- an operation on two trees -/
theorem s_bin {o : BOp} {a b : CE} {x y : Expr} {pos : Pos} (ha : PE X x (tE W X.K C a)) (hb : PE X y (tE W X.K C b)) : PE X (.BinOp x (opOf o) y pos) (tE W X.K C (.bin o a b)) := by
  refine PE_imp (pe_op (op_bin o) ha hb) fun σ H Q ⟨G, H0, mu0, mu, s, R, h⟩ => ⟨G, H0, mu0, mu, s, R, ?_⟩
  unfold ev at h
  refine (Post.bind (Rv := RvE X.K G H0 mu0 σ) bkE h).imp fun v H1 ⟨r, mu1, s1, _, nx, rv, h⟩ => ⟨G, H0, mu0, mu1, s1, nx.rel, ?_⟩
  refine (Post.bind (Rv := RvE X.K G H0 mu0 σ) bkE h).imp fun u H2 ⟨q, mu2, s2, _, nx2, rv2, h⟩ => ?_
  split at h
  · rename_i dx dy e1 e2
    have d1 := (rv.w.keep nx2).res nx2.rel e1
    have d2 := rv2.w.res nx2.rel e2
    cases e : binD o dx dy with
    | none => rw [e] at h; exact h.elim
    | some rr =>
      rw [e] at h
      exact ⟨_, dx, dy, rr, hid_le, d1, d2, e, fun v H' ro => let ⟨nx3, rv3⟩ := RO.nx nx2.rel ro; h v mu2 H' nx3 rv3⟩
  · exact h.elim
end
end Pur
end
section
set_option Elab.async false
set_option linter.all false
set_option maxHeartbeats 1000000
namespace Pur
open PySem PySem.Spec L2
section
variable {α β γ : Type}
theorem O.assoc (m : O α) (f : α → Sg → O β) (g : β → Sg → O γ) : (m.bind f).bind g = m.bind fun a s => (f a s).bind g := by
  cases m <;> rfl
end
section
variable {K : Fg} {G : Addr → Prop} {H0 H : Hp} {mu0 mu : List Addr} {s s1 : Sg} {σ : St} {v : V}
/-- a list of one's own is given away -/
theorem Rel.freeze (R : Rel K G H0 mu0 mu s σ H) {i : Nat} {xs : List D} (e : s.env[i]? = some (EV.own xs)) :
    Nx K G H0 mu0 mu s σ H mu { s with env := s.env.set i (.dat (.list xs)) } σ H ∧ ∀ v, σ[i]? = some (some v) → Dp K (hid G (s.env.set i (.dat (.list xs))) σ H) v (.list xs) := by
  obtain ⟨o, e1, a, vs, e2, e3, e4⟩ := R.slots i _ e
  subst e2
  obtain ⟨hi, _⟩ := List.getElem?_eq_some_iff.mp e
  have at_ : ∀ {j ys}, OwnAt (s.env.set i (.dat (.list xs))) j ys → OwnAt s.env j ys ∧ j ≠ i := fun {j ys} h => by
    by_cases q : i = j
    · subst q
      unfold OwnAt at h
      rw [List.getElem?_set_self hi] at h
      rcases h with h | h <;> cases h
    · unfold OwnAt at h
      rw [List.getElem?_set_ne q] at h
      exact ⟨h, fun z => q z.symm⟩
  have sub : ∀ b, ownA (s.env.set i (.dat (.list xs))) σ b → ownA s.env σ b := fun b ⟨j, ys, h, z⟩ => ⟨j, ys, (at_ h).1, z⟩
  have t : Tm (hid G s.env σ H) (hid G (s.env.set i (.dat (.list xs))) σ H) := Tm.msk fun b z => z.elim .inl fun q => .inr (sub b q)
  have nown : ¬ ownA (s.env.set i (.dat (.list xs))) σ a := fun ⟨j, ys, h, z⟩ => by
    obtain ⟨h, n⟩ := at_ h
    exact n (R.inj j i ys xs a h (.inl e) z e1)
  have nG : ¬ G a := fun z => (R.dom a z).2.1 ⟨i, xs, .inl e, e1⟩
  have dp : ∀ v, σ[i]? = some (some v) → Dp K (hid G (s.env.set i (.dat (.list xs))) σ H) v (.list xs) := fun v z => by
    rw [e1] at z; cases z
    refine .lst (xs := vs) (.of ?_) (daT t e4)
    rw [hid_yes nG nown]; exact e3
  refine ⟨⟨⟨?_, ?_, ?_, R.stl, ?_, R.nd, fun b z => ⟨(R.dom b z).1, fun q => (R.dom b z).2.1 (sub b q), (R.dom b z).2.2⟩, R.ext, fun b z => R.new b (sub b z), R.pre⟩, ⟨[], by simp⟩, t, fun _ h => h, fun _ _ => rfl, fun j ys h => ⟨?_, fun _ z => ⟨z, rfl⟩⟩⟩, dp⟩
  · show (s.env.set i _).length = _
    rw [List.length_set]; exact R.len
  · intro j ev q
    by_cases hj : i = j
    · subst hj
      rw [List.getElem?_set_self hi] at q
      cases q
      exact ⟨_, e1, _, rfl, dp _ e1⟩
    · rw [List.getElem?_set_ne hj] at q
      obtain ⟨o, q1, q2⟩ := R.slots j ev q
      exact ⟨o, q1, EvR.mono t (fun _ _ _ _ => rfl) (fun _ _ z => z) q2⟩
  · intro j k ys zs b h1 h2 z1 z2
    exact R.inj j k ys zs b (at_ h1).1 (at_ h2).1 z1 z2
  · intro n kvs b q1 q2
    obtain ⟨ws, h1, h2⟩ := R.sto n kvs b q1 q2
    exact ⟨ws, h1, KvR.tm t h2⟩
  · have hj : i ≠ j := fun q => by rw [← q, e] at h; cases h
    show (s.env.set i _)[j]? = _
    rw [List.getElem?_set_ne hj]; exact h
theorem esc_nx (R : Rel K G H0 mu0 mu s σ H) {r q : RV} (h : RVw K G σ mu s H r v) (e : s.esc r = .ok q s1) : Nx K G H0 mu0 mu s σ H mu s1 σ H ∧ RVw K G σ mu s1 H q v := by
  cases r with
  | dat d => cases e; exact ⟨.refl R, h⟩
  | fresh xs => cases e; exact ⟨.refl R, h⟩
  | loc n => cases e; exact ⟨.refl R, h⟩
  | slot i =>
    unfold Sg.esc at e
    simp only at e
    split at e
    · rename_i xs z
      cases e
      obtain ⟨nx, dp⟩ := R.freeze z
      exact ⟨nx, dp v h⟩
    · rename_i d z
      cases e
      obtain ⟨o, e1, w, e2, e3⟩ := R.slots i _ z
      have h : σ[i]? = some (some v) := h
      rw [h] at e1; cases e1; cases e2
      exact ⟨.refl R, e3⟩
    · cases e
theorem escD_nx (R : Rel K G H0 mu0 mu s σ H) {r : RV} {d : D} (h : RVw K G σ mu s H r v) (e : s.escD r = .ok d s1) : Nx K G H0 mu0 mu s σ H mu s1 σ H ∧ Dp K (hid G s1.env σ H) v d := by
  unfold Sg.escD at e
  cases q : s.esc r with
  | exc c fs s2 => rw [q] at e; cases e
  | stuck => rw [q] at e; cases e
  | ok r2 s2 =>
    rw [q] at e
    obtain ⟨nx, w⟩ := esc_nx R h q
    cases r2 with
    | dat d2 => cases e; exact ⟨nx, w⟩
    | fresh _ => cases e
    | loc _ => cases e
    | slot _ => cases e
theorem esc_noexc {r : RV} {c : Nat} {fs : List D} (e : s.esc r = .exc c fs s1) : False := by
  unfold Sg.esc at e
  split at e
  · cases e
  · cases e
  · split at e <;> cases e
  · cases e
end
section
variable {X : Cx} {W : Xw} {C : Cn} {N : Nm}
/-- the three readings of an expression -/
structure Snd (X : Cx) (W : Xw) (C : Cn) (c : CE) (e : Expr) : Prop where
  pe : PE X e (tE W X.K C c)
  pt : PT X e (tT W X.K C c)
  pw : ∀ op es pos, e = .BoolOp op es pos → PW X e (tT W X.K C c)
/-- an expression that is no test by itself -/
def plainT : Expr → Bool
  | .UnaryOp .Not _ _ => false
  | .BoolOp _ _ _ => false
  | .IfExp _ _ _ _ => false
  | .Compare _ _ _ _ => false
  | _ => true
theorem isTrue_of {e : Expr} (h : plainT e = true) (env : Env) (whole : Sem Value) : isTrue e env whole = (do let v ← whole; standAt e.pos; holding [v] (truthy v)) := by
  cases e <;> first | rfl | (cases h) | skip
  rename_i op x pos
  cases op <;> first | rfl | (cases h)
theorem t_plain {c : CE} {e : Expr} (h : PE X e (tE W X.K C c)) (p : plainT e = true) : PT X e (tT W X.K C c) := by
  refine PT_imp (pt_truth h fun w => isTrue_of p _ w) fun σ H Q ⟨G, H0, mu0, mu, s, R, h⟩ => ⟨G, H0, mu0, mu, s, R, ?_⟩
  unfold O.tst at h
  refine (Post.bind (Rv := RvE X.K G H0 mu0 σ) bkP h).imp fun v H1 ⟨r, mu1, s1, _, nx, rv, h⟩ => ?_
  cases e1 : s1.res r with
  | none => rw [e1] at h; exact h.elim
  | some d =>
    rw [e1] at h
    cases e2 : tru d with
    | none => simp only [Option.bind_some] at h; rw [e2] at h; exact h.elim
    | some k =>
      simp only [Option.bind_some] at h; rw [e2] at h
      exact ⟨k, tru_rel hid_le (rv.w.res nx.rel e1) e2, h.pure nx.rel rfl⟩
theorem Snd.of {c : CE} {e : Expr} (h : PE X e (tE W X.K C c)) (p : plainT e = true) : Snd X W C c e := ⟨h, t_plain h p, fun op es pos z => by subst z; cases p⟩
/-! ### comparisons -/
theorem s_cmp (ok : XOk X W C N) {o : COp} {a b : CE} {x y : Expr} {pos : Pos} (ha : PE X x (tE W X.K C a)) (hb : PE X y (tE W X.K C b)) (hm : behindInMarks (cOf o) y = false) : Snd X W C (.cmp o a b) (.Compare x [cOf o] [y] pos) := by
  have hu := ok.un
  have core : ∀ σ H (Q : VK), tE W X.K C (.cmp o a b) σ H Q → tOp (rCmp X.K o) (tE W X.K C a) (tE W X.K C b) σ H Q := fun σ H Q ⟨G, H0, mu0, mu, s, R, h⟩ => by
    refine ⟨G, H0, mu0, mu, s, R, ?_⟩
    unfold ev at h
    refine (Post.bind (Rv := RvE X.K G H0 mu0 σ) bkE h).imp fun v H1 ⟨r, mu1, s1, _, nx, rv, h⟩ => ⟨G, H0, mu0, mu1, s1, nx.rel, ?_⟩
    refine (Post.bind (Rv := RvE X.K G H0 mu0 σ) bkE h).imp fun u H2 ⟨q, mu2, s2, _, nx2, rv2, h⟩ => ?_
    split at h
    · rename_i dx dy e1 e2
      have d1 := (rv.w.keep nx2).res nx2.rel e1
      have d2 := rv2.w.res nx2.rel e2
      cases e : cmpD o dx dy with
      | none => rw [e] at h; exact h.elim
      | some k =>
        rw [e] at h
        exact ⟨_, dx, dy, k, hid_le, d1, d2, e, h.pure nx2.rel (.bl _)⟩
    · exact h.elim
  refine ⟨PE_imp (pe_cmpR (op_cmp (by omega) o) ha hb hm) core, PT_imp (pt_cmpR (op_cmp (by omega) o) ha hb hm) fun σ H Q ⟨G, H0, mu0, mu, s, R, h⟩ => ?_, fun op es pos z => by cases z⟩
  refine core σ H _ ⟨G, H0, mu0, mu, s, R, ?_⟩
  unfold O.tst at h
  refine (Post.bind (Rv := RvE X.K G H0 mu0 σ) bkP h).imp fun v H1 ⟨r, mu1, s1, em, nx, rv, h⟩ => ?_
  -- its value is a truth
  have : ∃ k, r = .dat (.bool k) := by
    unfold ev at em
    cases m1 : ev C a s with
    | exc _ _ _ => rw [m1] at em; cases em
    | stuck => rw [m1] at em; cases em
    | ok r1 t1 =>
      rw [m1] at em
      simp only [O.bind] at em
      cases m2 : ev C b t1 with
      | exc _ _ _ => rw [m2] at em; cases em
      | stuck => rw [m2] at em; cases em
      | ok r2 t2 =>
        rw [m2] at em
        simp only at em
        split at em
        · rename_i dx dy _ _
          cases m3 : cmpD o dx dy with
          | none => rw [m3] at em; cases em
          | some k => rw [m3] at em; cases em; exact ⟨k, rfl⟩
        · cases em
  obtain ⟨k, rfl⟩ := this
  have rv : Dp X.K (hid G s1.env σ H1) v (.bool k) := rv
  cases rv
  exact ⟨k, rfl, h.pure nx.rel rfl⟩
/-! ### not, and, or, if -/
theorem s_nt {a : CE} {x : Expr} {pos : Pos} (ha : Snd X W C a x) (hp : PE X x (tE W X.K C a)) : Snd X W C (.nt a) (.UnaryOp .Not x pos) := by
  refine ⟨PE_imp (pe_notT hp) fun σ H Q ⟨G, H0, mu0, mu, s, R, h⟩ => ⟨G, H0, mu0, mu, s, R, ?_⟩, PT_imp (pt_not ha.pt) fun σ H Q ⟨G, H0, mu0, mu, s, R, h⟩ => ⟨G, H0, mu0, mu, s, R, ?_⟩, fun op es pos z => by cases z⟩
  · unfold ev at h
    unfold O.tst at h
    rw [O.assoc] at h
    refine (Post.bind (Rv := RvE X.K G H0 mu0 σ) bkE h).imp fun v H1 ⟨r, mu1, s1, _, nx, rv, h⟩ => ?_
    cases e1 : s1.res r with
    | none => rw [e1] at h; exact h.elim
    | some d =>
      rw [e1] at h
      cases e2 : tru d with
      | none => simp only [Option.bind_some] at h; rw [e2] at h; exact h.elim
      | some k =>
        simp only [Option.bind_some] at h; rw [e2] at h
        exact ⟨k, tru_rel hid_le (rv.w.res nx.rel e1) e2, h.pure nx.rel (.bl _)⟩
  · unfold ev at h
    have e : ∀ m : O RV, (m.tst.bind fun k s1 => O.ok (RV.dat (.bool !k)) s1).tst = m.tst.bind fun k s1 => .ok (!k) s1 := fun m => by
      unfold O.tst
      rw [O.assoc]
      rfl
    rw [e] at h
    exact (Post.bind (Rv := RvP) bkP h).imp fun k H1 ⟨k', mu1, s1, _, nx, rv, h⟩ => by
      subst rv
      exact h.pure nx.rel rfl
theorem RVw.strong {K : Fg} {G : Addr → Prop} {H0 Hb H : Hp} {mu0 mu : List Addr} {s : Sg} {σ : St} {v : V} : ∀ {r : RV}, RVw K G σ mu s H r v → RVr K G H0 mu0 σ Hb mu s H r.weak v
  | .dat _, h => h
  | .slot _, h => h
  | .loc _, h => h
  | .fresh _, h => h
/-- the rest of an and, an or -/
theorem pe_tail {op : BoolOp} {b : CE} {y : Expr} {rest : List Expr} {pos : Pos} (h1 : rest = [] → PE X y (tE W X.K C b)) (h2 : rest ≠ [] → PE X (.BoolOp op (y :: rest) pos) (tE W X.K C b)) : PE X (.BoolOp op (y :: rest) pos) (tE W X.K C b) := by
  cases rest with
  | nil => exact pe_one (h1 rfl)
  | cons z r => exact h2 (by simp)
theorem s_and {a b : CE} {x y : Expr} {rest : List Expr} {pos : Pos} (ha : Snd X W C a x) (h1 : rest = [] → Snd X W C b y) (h2 : rest ≠ [] → Snd X W C b (.BoolOp .And (y :: rest) pos)) : Snd X W C (.and a b) (.BoolOp .And (x :: y :: rest) pos) := by
  have hw : PW X (.BoolOp .And (x :: y :: rest) pos) (tT W X.K C (.and a b)) := by
    have hb : PW X (.BoolOp .And (y :: rest) pos) (tT W X.K C b) := by
      cases rest with
      | nil => exact pw_and1 (h1 rfl).pt
      | cons z r => exact (h2 (by simp)).pw _ _ _ rfl
    refine ⟨fun wh pins s σ H Q I h => (pw_and ha.pt hb).run wh pins s σ H Q I ?_⟩
    obtain ⟨G, H0, mu0, mu, s, R, h⟩ := h
    refine ⟨G, H0, mu0, mu, s, R, ?_⟩
    have e0 : ev C (.and a b) s = (ev C a s).bind fun r s1 => match (s1.res r).bind tru with
        | some true => ev C b s1
        | some false => .ok r.weak s1
        | none => .stuck := rfl
    have e : (ev C (.and a b) s).tst = (ev C a s).tst.bind fun k s1 => if k then (ev C b s1).tst else .ok false s1 := by
      rw [e0]
      unfold O.tst
      rw [O.assoc, O.assoc]
      congr 1
      funext r s1
      cases q : (s1.res r).bind tru with
      | none => rfl
      | some k =>
        cases k with
        | true => rfl
        | false =>
          show O.of ((s1.res r.weak).bind tru) s1 = _
          have : s1.res r.weak = s1.res r := by cases r <;> rfl
          rw [this, q]
          rfl
    rw [e] at h
    refine (Post.bind (Rv := RvP) bkP h).imp fun k H1 ⟨k', mu1, s1, _, nx, rv, h⟩ => ?_
    subst rv
    cases k with
    | true => exact ⟨G, H0, mu0, mu1, s1, nx.rel, h⟩
    | false => exact h.pure nx.rel rfl
  refine ⟨PE_imp (pe_andT ha.pe (pe_tail (fun z => (h1 z).pe) fun z => (h2 z).pe)) fun σ H Q ⟨G, H0, mu0, mu, s, R, h⟩ => ⟨G, H0, mu0, mu, s, R, ?_⟩, hw.pt, fun op es p z => by cases z; exact hw⟩
  unfold ev at h
  refine (Post.bind (Rv := RvE X.K G H0 mu0 σ) bkE h).imp fun v H1 ⟨r, mu1, s1, _, nx, rv, h⟩ => ?_
  cases e1 : s1.res r with
  | none => rw [e1] at h; exact h.elim
  | some d =>
    rw [e1] at h
    simp only [Option.bind_some] at h
    split at h
    · rename_i e2
      exact ⟨true, tru_rel hid_le (rv.w.res nx.rel e1) e2, G, H0, mu0, mu1, s1, nx.rel, h⟩
    · rename_i e2
      exact ⟨false, tru_rel hid_le (rv.w.res nx.rel e1) e2, h.pure nx.rel rv.w.strong⟩
    · exact h.elim
theorem s_or {a b : CE} {x y : Expr} {rest : List Expr} {pos : Pos} (ha : Snd X W C a x) (h1 : rest = [] → Snd X W C b y) (h2 : rest ≠ [] → Snd X W C b (.BoolOp .Or (y :: rest) pos)) : Snd X W C (.or a b) (.BoolOp .Or (x :: y :: rest) pos) := by
  have hw : PW X (.BoolOp .Or (x :: y :: rest) pos) (tT W X.K C (.or a b)) := by
    have hb : PW X (.BoolOp .Or (y :: rest) pos) (tT W X.K C b) := by
      cases rest with
      | nil => exact pw_or1 (h1 rfl).pt
      | cons z r => exact (h2 (by simp)).pw _ _ _ rfl
    refine ⟨fun wh pins s σ H Q I h => (pw_or ha.pt hb).run wh pins s σ H Q I ?_⟩
    obtain ⟨G, H0, mu0, mu, s, R, h⟩ := h
    refine ⟨G, H0, mu0, mu, s, R, ?_⟩
    have e0 : ev C (.or a b) s = (ev C a s).bind fun r s1 => match (s1.res r).bind tru with
        | some true => .ok r.weak s1
        | some false => ev C b s1
        | none => .stuck := rfl
    have e : (ev C (.or a b) s).tst = (ev C a s).tst.bind fun k s1 => if k then .ok true s1 else (ev C b s1).tst := by
      rw [e0]
      unfold O.tst
      rw [O.assoc, O.assoc]
      congr 1
      funext r s1
      cases q : (s1.res r).bind tru with
      | none => rfl
      | some k =>
        cases k with
        | false => rfl
        | true =>
          show O.of ((s1.res r.weak).bind tru) s1 = _
          have : s1.res r.weak = s1.res r := by cases r <;> rfl
          rw [this, q]
          rfl
    rw [e] at h
    refine (Post.bind (Rv := RvP) bkP h).imp fun k H1 ⟨k', mu1, s1, _, nx, rv, h⟩ => ?_
    subst rv
    cases k with
    | false => exact ⟨G, H0, mu0, mu1, s1, nx.rel, h⟩
    | true => exact h.pure nx.rel rfl
  refine ⟨PE_imp (pe_orT ha.pe (pe_tail (fun z => (h1 z).pe) fun z => (h2 z).pe)) fun σ H Q ⟨G, H0, mu0, mu, s, R, h⟩ => ⟨G, H0, mu0, mu, s, R, ?_⟩, hw.pt, fun op es p z => by cases z; exact hw⟩
  unfold ev at h
  refine (Post.bind (Rv := RvE X.K G H0 mu0 σ) bkE h).imp fun v H1 ⟨r, mu1, s1, _, nx, rv, h⟩ => ?_
  cases e1 : s1.res r with
  | none => rw [e1] at h; exact h.elim
  | some d =>
    rw [e1] at h
    simp only [Option.bind_some] at h
    split at h
    · rename_i e2
      exact ⟨true, tru_rel hid_le (rv.w.res nx.rel e1) e2, h.pure nx.rel rv.w.strong⟩
    · rename_i e2
      exact ⟨false, tru_rel hid_le (rv.w.res nx.rel e1) e2, G, H0, mu0, mu1, s1, nx.rel, h⟩
    · exact h.elim
theorem ite_ev {α : Type} (k : Bool) (m n : O RV) : (if k then m else n).tst = if k then m.tst else n.tst := by cases k <;> rfl
theorem s_ite {c a b : CE} {t x y : Expr} {pos : Pos} (hc : Snd X W C c t) (ha : Snd X W C a x) (hb : Snd X W C b y) : Snd X W C (.ite c a b) (.IfExp t x y pos) := by
  refine ⟨PE_imp (pe_ifExp hc.pt ha.pe hb.pe) fun σ H Q ⟨G, H0, mu0, mu, s, R, h⟩ => ⟨G, H0, mu0, mu, s, R, ?_⟩, ⟨fun pins s σ H Q I h => ?_⟩, fun op es pos z => by cases z⟩
  · unfold ev at h
    refine (Post.bind (Rv := RvP) bkE h).imp fun k H1 ⟨k', mu1, s1, _, nx, rv, h⟩ => ?_
    subst rv
    cases k with
    | true => exact ⟨G, H0, mu0, mu1, s1, nx.rel, h⟩
    | false => exact ⟨G, H0, mu0, mu1, s1, nx.rel, h⟩
  · obtain ⟨G, H0, mu0, mu, s0, R, h⟩ := h
    have e0 : ev C (.ite c a b) s0 = (ev C c s0).tst.bind fun k s1 => if k then ev C a s1 else ev C b s1 := rfl
    have e : (ev C (.ite c a b) s0).tst = (ev C c s0).tst.bind fun k s1 => if k then (ev C a s1).tst else (ev C b s1).tst := by
      rw [e0]
      show O.bind (O.bind _ _) _ = _
      rw [O.assoc]
      congr 1
      funext k s1
      cases k <;> rfl
    rw [e] at h
    have q := Post.bind (Rv := RvP) bkP h
    show wpAny _ _ (do if ← isTrue t X.env (eval t X.env) then isTrue x X.env (eval x X.env) else isTrue y X.env (eval y X.env)) _ _ s
    refine wpAny_bind (thn (hc.pt.run pins s σ H _ I ⟨G, H0, mu0, mu, s0, R, q⟩) fun k s1 ⟨H1, I1, k', mu1, s2, _, nx, rv, h⟩ => ?_)
    subst rv
    cases k with
    | true => exact ha.pt.run pins s1 σ H1 Q I1 ⟨G, H0, mu0, mu1, s2, nx.rel, h⟩
    | false => exact hb.pt.run pins s1 σ H1 Q I1 ⟨G, H0, mu0, mu1, s2, nx.rel, h⟩
end
end Pur
end
section
set_option Elab.async false
set_option linter.all false
set_option maxHeartbeats 1000000
namespace Pur
open PySem PySem.Spec L2
/-- an expression with no star -/
def noStar : Expr → Bool
  | .Starred _ _ => false
  | _ => true
theorem star_cons {e : Expr} {es : List Expr} {env : Env} (h : noStar e = true) : starEach (e :: es) env = (false, eval e env) :: starEach es env := by
  cases e <;> first | rfl | (cases h)
/-- readings of lists of expressions -/
def CEs.len : CEs → Nat
  | .nil => 0
  | .cons _ cs => cs.len + 1
theorem evDs_len {C : Cn} : ∀ {cs : CEs} {s s' : Sg} {ds : List D}, evDs C cs s = .ok ds s' → ds.length = cs.len
  | .nil, s, s', ds, e => by rw [evDs] at e; cases e; rfl
  | .cons c cs, s, s', ds, e => by
    rw [evDs] at e
    cases m1 : ev C c s with
    | exc _ _ _ => rw [m1] at e; cases e
    | stuck => rw [m1] at e; cases e
    | ok r s1 =>
      rw [m1] at e
      simp only [O.bind] at e
      cases m2 : s1.escD r with
      | exc _ _ _ => rw [m2] at e; cases e
      | stuck => rw [m2] at e; cases e
      | ok d s2 =>
        rw [m2] at e
        simp only at e
        cases m3 : evDs C cs s2 with
        | exc _ _ _ => rw [m3] at e; cases e
        | stuck => rw [m3] at e; cases e
        | ok ds' s3 =>
          rw [m3] at e
          simp only at e
          cases e
          simp [evDs_len m3, CEs.len]
def tDs (W : Xw) (K : Fg) (C : Cn) (c : CEs) : TA := fun σ H Q => ∃ G H0 mu0 mu s, Rel K G H0 mu0 mu s σ H ∧ Post W K G H0 mu0 σ (RvD K G σ) mu s H (evDs C c s) Q
def tKs (W : Xw) (K : Fg) (C : Cn) (c : CEs) : TA := fun σ H Q => ∃ G H0 mu0 mu s, Rel K G H0 mu0 mu s σ H ∧ Post W K G H0 mu0 σ (RvK K G σ) mu s H (evKs C c s) Q
def tRs (W : Xw) (K : Fg) (C : Cn) (c : CEs) : TA := fun σ H Q => ∃ G H0 mu0 mu s, Rel K G H0 mu0 mu s σ H ∧ Post W K G H0 mu0 σ (RvK K G σ) mu s H (evRs C c s) Q
/-- the three readings of a list of expressions -/
structure SndL (X : Cx) (W : Xw) (C : Cn) (c : CEs) (es : List Expr) : Prop where
  ds : PA X es (tDs W X.K C c)
  ks : PA X es (tKs W X.K C c)
  rs : PA X es (tRs W X.K C c)
  ns : es.all noStar = true
  len : c.len = es.length
section
variable {X : Cx} {W : Xw} {C : Cn} {N : Nm}
theorem RVs.keep {K : Fg} {G : Addr → Prop} {H0 H H1 : Hp} {mu0 mu mu1 : List Addr} {s s1 : Sg} {σ : St} (nx : Nx K G H0 mu0 mu s σ H mu1 s1 σ H1) : ∀ {rs : List RV} {vs : List V}, RVs K G σ mu s H rs vs → RVs K G σ mu1 s1 H1 rs vs
  | _, _, .nil => .nil
  | _, _, .cons a b => .cons (a.keep nx) (RVs.keep nx b)
theorem sl_nil : SndL X W C .nil [] := by
  refine ⟨PA_imp pa_nil fun σ H Q ⟨G, H0, mu0, mu, s, R, h⟩ => ?_, PA_imp pa_nil fun σ H Q ⟨G, H0, mu0, mu, s, R, h⟩ => ?_, PA_imp pa_nil fun σ H Q ⟨G, H0, mu0, mu, s, R, h⟩ => ?_, rfl, rfl⟩
  · exact h.pure R DpAll.nil
  · exact h.pure R Paired.nil
  · exact h.pure R Paired.nil
theorem sl_cons {c : CE} {cs : CEs} {e : Expr} {es : List Expr} (he : PE X e (tE W X.K C c)) (hs : SndL X W C cs es) (hn : noStar e = true) : SndL X W C (.cons c cs) (e :: es) := by
  refine ⟨PA_imp (pa_cons he hs.ds (star_cons hn)) fun σ H Q ⟨G, H0, mu0, mu, s, R, h⟩ => ⟨G, H0, mu0, mu, s, R, ?_⟩,
    PA_imp (pa_cons he hs.ks (star_cons hn)) fun σ H Q ⟨G, H0, mu0, mu, s, R, h⟩ => ⟨G, H0, mu0, mu, s, R, ?_⟩,
    PA_imp (pa_cons he hs.rs (star_cons hn)) fun σ H Q ⟨G, H0, mu0, mu, s, R, h⟩ => ⟨G, H0, mu0, mu, s, R, ?_⟩, by rw [List.all_cons, hn, hs.ns]; rfl, by simp [CEs.len, hs.len]⟩
  · rw [evDs] at h
    refine (Post.bind (Rv := RvE X.K G H0 mu0 σ) bkD h).imp fun v H1 ⟨r, mu1, s1, _, nx, rv, h⟩ => ?_
    cases q : s1.escD r with
    | exc c fs s2 =>
      exfalso
      unfold Sg.escD at q
      cases q2 : s1.esc r with
      | exc c fs s3 => exact esc_noexc q2
      | stuck => rw [q2] at q; cases q
      | ok r2 s3 =>
        rw [q2] at q
        cases r2 <;> cases q
    | stuck => rw [q] at h; exact h.elim
    | ok d s2 =>
      rw [q] at h
      obtain ⟨nx2, dp⟩ := escD_nx nx.rel rv.w q
      have h := Post.on bkD nx2 h
      refine ⟨G, H0, mu0, mu1, s2, nx2.rel, ?_⟩
      refine (Post.bind (Rv := RvD X.K G σ) bkD h).imp fun vs H3 ⟨ds, mu3, s3, _, nx3, rv3, h⟩ => ?_
      exact h.pure nx3.rel (DpAll.cons (dpT nx3.tm dp) rv3)
  · rw [evKs] at h
    refine (Post.bind (Rv := RvE X.K G H0 mu0 σ) bkK h).imp fun v H1 ⟨r, mu1, s1, _, nx, rv, h⟩ => ?_
    cases q : s1.esc r with
    | exc c fs s2 => exact (esc_noexc q).elim
    | stuck => rw [q] at h; exact h.elim
    | ok d s2 =>
      rw [q] at h
      obtain ⟨nx2, dp⟩ := esc_nx nx.rel rv.w q
      have h := Post.on bkK nx2 h
      refine ⟨G, H0, mu0, mu1, s2, nx2.rel, ?_⟩
      refine (Post.bind (Rv := RvK X.K G σ) bkK h).imp fun vs H3 ⟨ds, mu3, s3, _, nx3, rv3, h⟩ => ?_
      exact h.pure nx3.rel (Paired.cons (dp.keep nx3) rv3)
  · rw [evRs] at h
    refine (Post.bind (Rv := RvE X.K G H0 mu0 σ) bkK h).imp fun v H1 ⟨r, mu1, s1, _, nx, rv, h⟩ => ?_
    refine ⟨G, H0, mu0, mu1, s1, nx.rel, ?_⟩
    refine (Post.bind (Rv := RvK X.K G σ) bkK h).imp fun vs H3 ⟨ds, mu3, s3, _, nx3, rv3, h⟩ => ?_
    exact h.pure nx3.rel (Paired.cons (rv.w.keep nx3) rv3)
/-! ### displays -/
theorem s_tup {cs : CEs} {es : List Expr} {k : Nat} {pos : Pos} (h : SndL X W C cs es) : PE X (.Tuple es k pos) (tE W X.K C (.tup cs)) := by
  refine PE_imp (pe_tup h.ds) fun σ H Q ⟨G, H0, mu0, mu, s, R, h⟩ => ⟨G, H0, mu0, mu, s, R, ?_⟩
  rw [ev] at h
  refine (Post.bind (Rv := RvD X.K G σ) bkE h).imp fun vs H1 ⟨ds, mu1, s1, _, nx, rv, h⟩ => ?_
  split at h
  · rename_i hl
    refine ⟨by rw [daLen rv]; exact hl, fun p hp => ?_⟩
    obtain ⟨nx2, rv2⟩ := RO.nx nx.rel (.tup hp rv)
    exact h _ _ _ nx2 rv2
  · exact h.elim
theorem s_lst {cs : CEs} {es : List Expr} {pos : Pos} (h : SndL X W C cs es) : PE X (.List es pos) (tE W X.K C (.lst cs)) := by
  refine PE_imp (pe_lst h.ds) fun σ H Q ⟨G, H0, mu0, mu, s, R, h⟩ => ⟨G, H0, mu0, mu, s, R, ?_⟩
  rw [ev] at h
  refine (Post.bind (Rv := RvD X.K G σ) bkE h).imp fun vs H1 ⟨ds, mu1, s1, _, nx, rv, h⟩ => ?_
  split at h
  · rename_i hl
    refine ⟨by rw [daLen rv]; exact hl, fun p hp => ?_⟩
    obtain ⟨nx2, rv2⟩ := RO.nx nx.rel (.lst hp rv)
    exact h _ _ _ nx2 rv2
  · exact h.elim
/-! ### a chain of two comparisons -/
theorem s_chain (ok : XOk X W C N) {o p : COp} {a b c : CE} {x y z : Expr} {pos : Pos} (ha : PE X x (tE W X.K C a)) (hb : PE X y (tE W X.K C b)) (hc : PE X z (tE W X.K C c)) (hm : lastMarks [cOf o, cOf p] [y, z] = false) :
    Snd X W C (.chain o p a b c) (.Compare x [cOf o, cOf p] [y, z] pos) := by
  have hu := ok.un
  have core : ∀ σ H (Q : VK), (∃ G H0 mu0 mu s, Rel X.K G H0 mu0 mu s σ H ∧ Post W X.K G H0 mu0 σ RvP mu s H (ev C (.chain o p a b c) s).tst (fun k H' => Q (.bl k) H')) → tChain (rCmp X.K o) (rCmp X.K p) (tE W X.K C a) (tE W X.K C b) (tE W X.K C c) σ H Q := fun σ H Q ⟨G, H0, mu0, mu, s, R, h⟩ => by
    refine ⟨G, H0, mu0, mu, s, R, ?_⟩
    unfold O.tst at h
    rw [ev, O.assoc] at h
    refine (Post.bind (Rv := RvE X.K G H0 mu0 σ) bkP h).imp fun v H1 ⟨r, mu1, s1, _, nx, rv, h⟩ => ⟨G, H0, mu0, mu1, s1, nx.rel, ?_⟩
    rw [O.assoc] at h
    refine (Post.bind (Rv := RvE X.K G H0 mu0 σ) bkP h).imp fun u H2 ⟨q, mu2, s2, _, nx2, rv2, h⟩ => ?_
    split at h
    · rename_i dx dy e1 e2
      have d1 := (rv.w.keep nx2).res nx2.rel e1
      have d2 := rv2.w.res nx2.rel e2
      split at h
      · rename_i e
        refine ⟨_, dx, dy, true, hid_le, d1, d2, e, true, rfl, ?_⟩
        rw [if_pos rfl]
        refine ⟨G, H0, mu0, mu2, s2, nx2.rel, ?_⟩
        rw [O.assoc] at h
        refine (Post.bind (Rv := RvE X.K G H0 mu0 σ) bkP h).imp fun w H3 ⟨t, mu3, s3, _, nx3, rv3, h⟩ => ?_
        split at h
        · rename_i dy' dz e3 e4
          have d3 := (rv2.w.keep nx3).res nx3.rel e3
          have d4 := rv3.w.res nx3.rel e4
          cases e5 : cmpD p dy' dz with
          | none => rw [e5] at h; exact h.elim
          | some k =>
            rw [e5] at h
            exact ⟨_, dy', dz, k, hid_le, d3, d4, e5, Post.pure (Rv := RvP) (b := k) nx3.rel h rfl⟩
        · exact h.elim
      · rename_i e
        refine ⟨_, dx, dy, false, hid_le, d1, d2, e, false, rfl, ?_⟩
        rw [if_neg Bool.false_ne_true]
        exact Post.pure (Rv := RvP) (b := false) nx2.rel h rfl
      · exact h.elim
    · exact h.elim
  refine ⟨PE_imp (pe_chain (op_cmp (by omega) o) (op_cmp (by omega) p) ha hb hc hm) fun σ H Q ⟨G, H0, mu0, mu, s, R, h⟩ => core σ H Q ⟨G, H0, mu0, mu, s, R, ?_⟩, PT_imp (pt_chain (op_cmp (by omega) o) (op_cmp (by omega) p) ha hb hc hm) fun σ H Q ⟨G, H0, mu0, mu, s, R, h⟩ => core σ H _ ⟨G, H0, mu0, mu, s, R, h.imp fun k H' q => ⟨k, rfl, q⟩⟩, fun op es pos z => by cases z⟩
  -- its value is a truth
  cases em : ev C (.chain o p a b c) s with
  | exc c fs s1 => rw [em] at h; exact h
  | stuck => rw [em] at h; exact h
  | ok r s1 =>
    have : ∃ k, r = .dat (.bool k) := by
      rw [ev] at em
      cases m1 : ev C a s with
      | exc _ _ _ => rw [m1] at em; cases em
      | stuck => rw [m1] at em; cases em
      | ok r1 t1 =>
        rw [m1] at em
        simp only [O.bind] at em
        cases m2 : ev C b t1 with
        | exc _ _ _ => rw [m2] at em; cases em
        | stuck => rw [m2] at em; cases em
        | ok r2 t2 =>
          rw [m2] at em
          simp only at em
          split at em
          · split at em
            · cases m3 : ev C c t2 with
              | exc _ _ _ => rw [m3] at em; cases em
              | stuck => rw [m3] at em; cases em
              | ok r3 t3 =>
                rw [m3] at em
                simp only at em
                split at em
                · rename_i dy' dz _ _
                  cases m4 : cmpD p dy' dz with
                  | none => rw [m4] at em; cases em
                  | some k => rw [m4] at em; cases em; exact ⟨k, rfl⟩
                · cases em
            · cases em; exact ⟨false, rfl⟩
            · cases em
          · cases em
    obtain ⟨k, rfl⟩ := this
    rw [em] at h
    intro kb mu' H' nx rv
    cases rv
    exact h (.bl _) mu' H' nx (.bl _)
/-! ### items, slices, built-ins -/
def notSl : Expr → Bool
  | .Slice _ _ _ _ => false
  | _ => true
theorem plainIx_of {y : Expr} (h : notSl y = true) : PlainIx y := fun o i => by
  cases y <;> first | rfl | (cases h)
theorem kvr_look {K : Fg} {M : Hp} : ∀ {vs : List (Ky × V)} {kvs : List (Ky × D)} {k : Ky} {d : D}, KvR K M vs kvs → lookK kvs k = some d → ∃ v, valV vs k = some v ∧ Dp K M v d
  | _, _, _, _, .nil, e => by cases e
  | p :: vs, q :: kvs, k, d, .cons r t, e => by
    obtain ⟨r1, r2⟩ := r
    by_cases h : q.1 = k
    · have e' : lookK (q :: kvs) k = some q.2 := by simp [lookK, List.find?_cons, h]
      rw [e'] at e; cases e
      exact ⟨p.2, valV_pos (r1.trans h), r2⟩
    · have e' : lookK (q :: kvs) k = lookK kvs k := by simp [lookK, List.find?_cons, h]
      rw [e'] at e
      obtain ⟨v, h1, h2⟩ := kvr_look t e
      exact ⟨v, by rw [valV_neg (fun z => h (r1.symm.trans z))]; exact h1, h2⟩
theorem key_rel {K : Fg} {M H : Hp} {v : V} {d : D} {k : Ky} (h : RD K M H v d) (e : keyD d = some k) : v = kV k := by
  cases d with
  | int i => cases e; exact h.int
  | str x => cases e; exact h.str
  | none => cases e
  | bool _ => cases e
  | list _ => cases e
  | tuple _ => cases e
  | dict _ => cases e
theorem s_sub (ok : XOk X W C N) {a i : CE} {x y : Expr} {pos : Pos} (ha : PE X x (tE W X.K C a)) (hi : PE X y (tE W X.K C i)) (hs : notSl y = true) : PE X (.Subscript x y pos) (tE W X.K C (.sub a i)) := by
  have hu := ok.un
  refine ⟨fun pins s σ H Q I h => ?_⟩
  obtain ⟨G, H0, mu0, mu, s0, R, h⟩ := h
  rw [ev] at h
  -- what the first value is
  cases em : ev C a s0 with
  | stuck => rw [em] at h; exact h.elim
  | exc c fs s1 =>
    refine (pe_ix (ix_sub (X := X)) ha hi (plainIx_of hs) (pos := pos)).run pins s σ H Q I ⟨G, H0, mu0, mu, s0, R, ?_⟩
    rw [em] at h ⊢
    exact h
  | ok r s1 =>
    have h1 := Post.bind (Rv := RvE X.K G H0 mu0 σ) bkE h
    cases r with
    | loc n =>
      refine (pe_dget (pos := pos) (by omega) ha hi (plainIx_of hs)).run pins s σ H Q I ⟨G, H0, mu0, mu, s0, R, h1.imp fun v H1 ⟨r', mu1, s1', em', nx, rv, h⟩ => ⟨G, H0, mu0, mu1, s1', nx.rel, ?_⟩⟩
      rw [em] at em'
      cases em'
      refine (Post.bind (Rv := RvE X.K G H0 mu0 σ) bkE h).imp fun u H2 ⟨q, mu2, s2, _, nx2, rv2, h⟩ => ?_
      simp only at h
      split at h
      · rename_i kvs k e1 e2
        obtain ⟨ad, e3, e4⟩ := rv
        subst e3
        have e4' := nx2.muN e4
        obtain ⟨kvs', vs, q1, q2, q3⟩ := nx2.rel.muH e4'
        rw [e1] at q1; cases q1
        cases e5 : s2.res q with
        | none => rw [e5] at e2; cases e2
        | some dk =>
          rw [e5] at e2
          have ek := key_rel (rv2.w.res nx2.rel e5) e2
          subst ek
          cases e6 : lookK kvs k with
          | none => rw [e6] at h; exact h.elim
          | some d =>
            rw [e6] at h
            obtain ⟨w, w1, w2⟩ := kvr_look q3 e6
            refine ⟨ad, w, rfl, ?_, h.pure nx2.rel w2⟩
            rw [← w1]
            exact DGet.k q2
      · exact h.elim
    | dat d =>
      refine (pe_ix (ix_sub (X := X)) ha hi (plainIx_of hs) (pos := pos)).run pins s σ H Q I ⟨G, H0, mu0, mu, s0, R, h1.imp fun v H1 ⟨r', mu1, s1', em', nx, rv, h⟩ => ⟨G, H0, mu0, mu1, s1', nx.rel, ?_⟩⟩
      rw [em] at em'
      cases em'
      refine (Post.bind (Rv := RvE X.K G H0 mu0 σ) bkE h).imp fun u H2 ⟨q, mu2, s2, _, nx2, rv2, h⟩ => ?_
      simp only at h
      split at h
      · rename_i dx dy e1 e2
        have d1 := (rv.w.keep nx2).res nx2.rel e1
        have d2 := rv2.w.res nx2.rel e2
        cases e : subD dx dy with
        | none => rw [e] at h; exact h.elim
        | some rr =>
          rw [e] at h
          exact ⟨_, dx, dy, rr, hid_le, d1, d2, e, fun v dv => h.pure nx2.rel dv⟩
      · exact h.elim
    | slot d =>
      refine (pe_ix (ix_sub (X := X)) ha hi (plainIx_of hs) (pos := pos)).run pins s σ H Q I ⟨G, H0, mu0, mu, s0, R, h1.imp fun v H1 ⟨r', mu1, s1', em', nx, rv, h⟩ => ⟨G, H0, mu0, mu1, s1', nx.rel, ?_⟩⟩
      rw [em] at em'
      cases em'
      refine (Post.bind (Rv := RvE X.K G H0 mu0 σ) bkE h).imp fun u H2 ⟨q, mu2, s2, _, nx2, rv2, h⟩ => ?_
      simp only at h
      split at h
      · rename_i dx dy e1 e2
        have d1 := (rv.w.keep nx2).res nx2.rel e1
        have d2 := rv2.w.res nx2.rel e2
        cases e : subD dx dy with
        | none => rw [e] at h; exact h.elim
        | some rr =>
          rw [e] at h
          exact ⟨_, dx, dy, rr, hid_le, d1, d2, e, fun v dv => h.pure nx2.rel dv⟩
      · exact h.elim
    | fresh d =>
      refine (pe_ix (ix_sub (X := X)) ha hi (plainIx_of hs) (pos := pos)).run pins s σ H Q I ⟨G, H0, mu0, mu, s0, R, h1.imp fun v H1 ⟨r', mu1, s1', em', nx, rv, h⟩ => ⟨G, H0, mu0, mu1, s1', nx.rel, ?_⟩⟩
      rw [em] at em'
      cases em'
      refine (Post.bind (Rv := RvE X.K G H0 mu0 σ) bkE h).imp fun u H2 ⟨q, mu2, s2, _, nx2, rv2, h⟩ => ?_
      simp only at h
      split at h
      · rename_i dx dy e1 e2
        have d1 := (rv.w.keep nx2).res nx2.rel e1
        have d2 := rv2.w.res nx2.rel e2
        cases e : subD dx dy with
        | none => rw [e] at h; exact h.elim
        | some rr =>
          rw [e] at h
          exact ⟨_, dx, dy, rr, hid_le, d1, d2, e, fun v dv => h.pure nx2.rel dv⟩
      · exact h.elim
def tO (W : Xw) (K : Fg) (C : Cn) (c : CEo) : TO := fun σ H Q => ∃ G H0 mu0 mu s, Rel K G H0 mu0 mu s σ H ∧ Post W K G H0 mu0 σ RvP mu s H (evO C c s) Q
theorem so_no : PO X none (tO W X.K C .no) := ⟨fun pins s σ H Q I ⟨G, H0, mu0, mu, s0, R, h⟩ => po_none.run pins s σ H Q I (Post.pure (Rv := RvP) R h rfl)⟩
theorem so_yes {c : CE} {e : Expr} (he : PE X e (tE W X.K C c)) : PO X (some e) (tO W X.K C (.yes c)) := by
  refine ⟨fun pins s σ H Q I ⟨G, H0, mu0, mu, s0, R, h⟩ => (po_some he).run pins s σ H Q I ⟨G, H0, mu0, mu, s0, R, ?_⟩⟩
  rw [evO] at h
  refine (Post.bind (Rv := RvE X.K G H0 mu0 σ) bkP h).imp fun v H1 ⟨r, mu1, s1, _, nx, rv, h⟩ => ?_
  split at h
  · rename_i i q
    exact ⟨i, (rv.w.res nx.rel q).int, Post.pure (Rv := RvP) nx.rel h rfl⟩
  · exact h.elim
theorem s_slice {a : CE} {lo hi : CEo} {x : Expr} {l u : Option Expr} {pos p2 : Pos} (ha : PE X x (tE W X.K C a)) (hl : PO X l (tO W X.K C lo)) (hu : PO X u (tO W X.K C hi)) : PE X (.Subscript x (.Slice l u none p2) pos) (tE W X.K C (.slice a lo hi)) := by
  refine PE_imp (pe_slice sl_slice ha hl hu) fun σ H Q ⟨G, H0, mu0, mu, s, R, h⟩ => ⟨G, H0, mu0, mu, s, R, ?_⟩
  rw [ev] at h
  refine (Post.bind (Rv := RvE X.K G H0 mu0 σ) bkE h).imp fun v H1 ⟨r, mu1, s1, _, nx, rv, h⟩ => ⟨G, H0, mu0, mu1, s1, nx.rel, ?_⟩
  refine (Post.bind (Rv := RvP) bkE h).imp fun lv H2 ⟨l', mu2, s2, _, nx2, rv2, h⟩ => ⟨G, H0, mu0, mu2, s2, nx2.rel, ?_⟩
  subst rv2
  refine (Post.bind (Rv := RvP) bkE h).imp fun hv H3 ⟨h', mu3, s3, _, nx3, rv3, h⟩ => ?_
  subst rv3
  split at h
  · rename_i dx e1
    have d1 := ((rv.w.keep nx2).keep nx3).res nx3.rel e1
    cases e : sliceD dx lv hv with
    | none => rw [e] at h; exact h.elim
    | some rr =>
      rw [e] at h
      exact ⟨_, dx, rr, hid_le, d1, e, fun v H' ro => let ⟨nx4, rv4⟩ := RO.nx nx3.rel ro; h v mu3 H' nx4 rv4⟩
  · exact h.elim
theorem rds_of {K : Fg} {G : Addr → Prop} {H0 H : Hp} {mu0 mu : List Addr} {s : Sg} {σ : St} (R : Rel K G H0 mu0 mu s σ H) : ∀ {rs : List RV} {vs : List V} {ds : List D}, RVs K G σ mu s H rs vs → rs.mapM s.res = some ds → RDs K (hid G s.env σ H) H vs ds
  | _, _, _, .nil, e => by simp at e; subst e; trivial
  | r :: rs, v :: vs, ds, .cons a b, e => by
    rw [List.mapM_cons] at e
    cases e1 : s.res r with
    | none => rw [e1] at e; cases e
    | some d =>
      rw [e1] at e
      cases e2 : rs.mapM s.res with
      | none => rw [e2] at e; cases e
      | some ds' =>
        rw [e2] at e; cases e
        exact ⟨a.res R e1, rds_of R b e2⟩
def biN : Bi → Str
  | .len => "len" | .tuple => "tuple" | .list => "list" | .repr => "repr" | .max => "max" | .min => "min" | .sum => "sum" | .all => "all" | .any => "any" | .str => "str" | .int => "int" | .ord => "ord"
theorem bi_boot (b : Bi) : bootBuiltins (biN b) = some (biV b) := by cases b <;> decide +kernel
theorem bi_dbg (b : Bi) : biN b ≠ "__name__" ∧ (biN b == ("__debug__" : Str)) = false := by cases b <;> decide +kernel
theorem s_bi (ok : XOk X W C N) {b : Bi} {cs : CEs} {e : Expr} {es : List Expr} {p pos : Pos} (h : SndL X W C cs (e :: es)) (hg : glB N.sc (biN b) = true) (hm : X.mg (biN b) = none) : PE X (.Call (.Name (biN b) p) (e :: es) [] pos) (tE W X.K C (.bi b cs)) := by
  have hg' : Gl X (biN b) := by
    unfold glB at hg
    rw [decide_eq_true_eq] at hg
    show X.env.scope.names.lookup _ = _
    rw [ok.sc]; exact hg
  have hns := h.ns
  rw [List.all_cons, Bool.and_eq_true] at hns
  have hst := star_cons (es := es) (env := X.env) hns.1
  have hpl : (backTo pos (starEach es X.env)).any (·.1) = false := by
    have : ∀ es : List Expr, es.all noStar = true → (backTo pos (starEach es X.env)).any (·.1) = false := by
      intro es
      induction es with
      | nil => intro _; rfl
      | cons e es ih =>
        intro h
        rw [List.all_cons, Bool.and_eq_true] at h
        rw [star_cons h.1]
        show (false || (backTo pos (starEach es X.env)).any (·.1)) = false
        rw [ih h.2]; rfl
    exact this es hns.2
  have hb := call_bi (X := X) ok.calm ok.gd ok.un b
  obtain ⟨n1, n2⟩ := bi_dbg b
  have core : ∀ σ H (Q : VK), tE W X.K C (.bi b cs) σ H Q → tCB (rBi X.K b) (tRs W X.K C cs) σ H Q := fun σ H Q ⟨G, H0, mu0, mu, s, R, h⟩ => by
    refine ⟨G, H0, mu0, mu, s, R, ?_⟩
    rw [ev] at h
    refine (Post.bind (Rv := RvK X.K G σ) bkE h).imp fun vs H1 ⟨rs, mu1, s1, _, nx, rv, h⟩ => ?_
    split at h
    · rename_i ds e1
      have d1 := rds_of nx.rel rv e1
      cases e2 : biD b ds with
      | none => rw [e2] at h; exact h.elim
      | some rr =>
        rw [e2] at h
        exact ⟨_, ds, rr, hid_le, d1, e2, fun v H' ro => let ⟨nx4, rv4⟩ := RO.nx nx.rel ro; h v mu1 H' nx4 rv4⟩
    · exact h.elim
  have bt := bi_boot b
  cases b <;> first
    | exact PE_imp (pe_callB hb hg' hm bt h.rs n1 n2 hst hpl) core
    | exact PE_imp (pe_callTy hb hg' hm bt h.rs n1 n2 hst hpl) core
end
end Pur
end
section
set_option Elab.async false
set_option linter.all false
set_option maxHeartbeats 1000000
namespace Pur
open PySem PySem.Spec L2
section
variable {K : Fg} {G : Addr → Prop} {H0 H : Hp} {mu0 mu : List Addr} {s : Sg} {σ : St} {v : V}
theorem OwnAt.set_own {env : List EV} {i j : Nat} {xs ys : List D} {e : EV} (he : env[i]? = some e) (h : OwnAt (env.set i (.own ys)) j xs) : (j = i ∧ xs = ys) ∨ (j ≠ i ∧ OwnAt env j xs) := by
  obtain ⟨hi, _⟩ := List.getElem?_eq_some_iff.mp he
  by_cases q : i = j
  · subst q
    unfold OwnAt at h
    rw [List.getElem?_set_self hi] at h
    rcases h with h | h
    · cases h; exact .inl ⟨rfl, rfl⟩
    · cases h
  · unfold OwnAt at h
    rw [List.getElem?_set_ne q] at h
    exact .inr ⟨fun z => q z.symm, h⟩
/-- a list of one's own is changed -/
theorem Rel.mut (R : Rel K G H0 mu0 mu s σ H) {i : Nat} {xs ys : List D} {a : Addr} {vs ws : List V} (e : s.env[i]? = some (EV.own xs)) (hσ : σ[i]? = some (some (V.ref a))) (ha : H a = some (.lst vs)) (da : DpAll K (hid G s.env σ H) ws ys) :
    Nx K G H0 mu0 mu s σ H mu { s with env := s.env.set i (.own ys) } σ (upd H a (.lst ws)) := by
  obtain ⟨hi, _⟩ := List.getElem?_eq_some_iff.mp e
  have own1 : ∀ b, ownA (s.env.set i (.own ys)) σ b → ownA s.env σ b := fun b ⟨j, zs, h, z⟩ => by
    rcases OwnAt.set_own e h with ⟨rfl, rfl⟩ | ⟨n, h⟩
    · exact ⟨_, xs, .inl e, z⟩
    · exact ⟨j, zs, h, z⟩
  have oa : ownA s.env σ a := ⟨i, xs, .inl e, hσ⟩
  have oa' : ownA (s.env.set i (.own ys)) σ a := ⟨i, ys, .inl (List.getElem?_set_self hi), hσ⟩
  have t : Tm (hid G s.env σ H) (hid G (s.env.set i (.own ys)) σ (upd H a (.lst ws))) := fun b o eb n => by
    obtain ⟨h1, h2, h3⟩ := hid_some eb
    have hb : b ≠ a := fun z => h2 (z ▸ oa)
    rw [hid_yes h1 (fun z => h2 (own1 b z)), upd_ne hb]; exact h3
  have nmu : a ∉ mu := fun z => by
    obtain ⟨n, hn, rfl⟩ := List.mem_iff_getElem.mp z
    obtain ⟨_, _, _, q, _⟩ := R.muH (List.getElem?_eq_getElem hn)
    rw [ha] at q; cases q
  refine ⟨⟨?_, ?_, ?_, R.stl, ?_, R.nd, fun b z => ?_, fun b o q n => ?_, fun b z => R.new b (own1 b z), R.pre⟩, ⟨[], by simp⟩, t, fun b z => ?_, fun b z => upd_ne fun (q : b = a) => (R.dom b z).2.1 (q ▸ oa), fun j zs h => ?_⟩
  · show (s.env.set i _).length = _
    rw [List.length_set]; exact R.len
  · intro j ev q
    by_cases hj : i = j
    · subst hj
      rw [List.getElem?_set_self hi] at q
      cases q
      exact ⟨_, hσ, a, ws, rfl, upd_same, daT t da⟩
    · rw [List.getElem?_set_ne hj] at q
      obtain ⟨o, q1, q2⟩ := R.slots j ev q
      refine ⟨o, q1, EvR.mono t (fun b zs z1 z2 => upd_ne fun z => ?_) (fun _ _ z => z) q2⟩
      subst z1 z
      rcases z2 with z2 | z2
      · subst z2; exact hj (R.inj i j xs zs b (.inl e) (.inl q) hσ q1)
      · subst z2; exact hj (R.inj i j xs zs b (.inl e) (.inr q) hσ q1)
  · intro j k zs us b h1 h2 z1 z2
    rcases OwnAt.set_own e h1 with ⟨j1, _⟩ | ⟨_, g1⟩
    · rcases OwnAt.set_own e h2 with ⟨j2, _⟩ | ⟨_, g2⟩
      · exact j1.trans j2.symm
      · rw [j1] at z1 ⊢
        exact R.inj _ _ _ _ b (.inl e) g2 z1 z2
    · rcases OwnAt.set_own e h2 with ⟨j2, _⟩ | ⟨_, g2⟩
      · rw [j2] at z2 ⊢
        exact R.inj _ _ _ _ b g1 (.inl e) z1 z2
      · exact R.inj _ _ _ _ b g1 g2 z1 z2
  · intro n kvs b q1 q2
    obtain ⟨us, h1, h2⟩ := R.sto n kvs b q1 q2
    exact ⟨us, (upd_ne fun (z : b = a) => nmu (z ▸ List.mem_of_getElem? q2)).trans h1, KvR.tm t h2⟩
  · obtain ⟨h1, h2, h3⟩ := R.dom b z
    refine ⟨?_, fun q => h2 (own1 b q), h3⟩
    rw [upd_ne fun (q : b = a) => h2 (q ▸ oa)]; exact h1
  · have hb : b ≠ a := fun z => by
      have := R.new a oa
      rw [← z, q] at this; cases this
    rw [upd_ne hb]; exact R.ext b o q n
  · by_cases hb : b = a
    · subst hb; rw [upd_same]; exact fun q => by cases q
    · rw [upd_ne hb]; exact z
  · have hj : i ≠ j := fun q => by rw [← q, e] at h; cases h
    refine ⟨(List.getElem?_set_ne hj).trans h, fun b z => ⟨z, upd_ne fun q => hj ?_⟩⟩
    subst q
    exact R.inj i j xs zs b (.inl e) (.inr h) hσ z
end
inductive Kd where
  | none | bool | int | str | list | tuple | dict
def kdOf : D → Kd
  | .none => .none | .bool _ => .bool | .int _ => .int | .str _ => .str | .list _ => .list | .tuple _ => .tuple | .dict _ => .dict
def kdS : Kd → String
  | .none => "NoneType" | .bool => "bool" | .int => "int" | .str => "str" | .list => "list" | .tuple => "tuple" | .dict => "dict"
def isiK : Kd → Ty → Bool
  | .int, .int => true | .bool, .int => true | .bool, .bool => true | .str, .str => true | .tuple, .tuple => true | .list, .list => true
  | _, _ => false
theorem isi_eq (d : D) (t : Ty) : isiD d t = isiK (kdOf d) t := by cases d <;> cases t <;> rfl
def tyN : Ty → String
  | .int => "int" | .bool => "bool" | .str => "str" | .tuple => "tuple" | .list => "list"
theorem kit_all (K : Fg) (k : Kd) (t : Ty) : PySem.W.kitOne K (.type (kdS k)) (.type (tyN t)) = some (isiK k t) := by
  cases k <;> cases t <;> exact kit_ty (by decide +kernel)
def kdN (d : D) : String := kdS (kdOf d)
theorem tyx_of {K : Fg} {M H : Hp} {v : V} {d : D} (t : Tm M H) (h : RD K M H v d) : TyX K H v (.type (kdN d)) := by
  cases d with
  | none => rw [h.none]; exact .base .non
  | bool b => rw [h.bool]; exact .base (.bl _)
  | int b => rw [h.int]; exact .base (.int _)
  | str b => rw [h.str]; exact .base (.str _)
  | list xs =>
    obtain ⟨a, vs, rfl, ha, _⟩ := h.lst t
    rcases ha with (ha | ⟨o, ha⟩) | ⟨o, its, n, ho, hc, _⟩
    · exact .base (.lst ha)
    · exact .base (.frz ha)
    · exact .kList ho hc
  | tuple xs =>
    obtain ⟨a, vs, rfl, ha, _⟩ := h.tup
    rcases t.sqT ha with (ha | ⟨o, ha⟩) | ⟨o, its, n, ho, hc, _⟩
    · exact .base (.tup ha)
    · exact .fTuple ha
    · exact .kTuple ho hc
  | dict _ => exact h.nodict.elim
section
variable {X : Cx} {W : Xw} {C : Cn} {N : Nm}
theorem glB_ok (ok : XOk X W C N) {x : Str} (h : glB N.sc x = true) : Gl X x := by
  unfold glB at h
  rw [decide_eq_true_eq] at h
  show X.env.scope.names.lookup _ = _
  rw [ok.sc]; exact h
theorem ty_boot (t : Ty) : bootBuiltins (Str.ofString (tyN t)) = some (.type (tyN t)) := by cases t <;> decide +kernel
theorem ty_dbg (t : Ty) : Str.ofString (tyN t) ≠ "__name__" ∧ (Str.ofString (tyN t) == ("__debug__" : Str)) = false := by cases t <;> decide +kernel
theorem s_isi (ok : XOk X W C N) {a : CE} {t : Ty} {x : Expr} {p p2 pos : Pos} (ha : PE X x (tE W X.K C a)) (hn : noStar x = true) (g1 : glB N.sc "isinstance" = true) (m1 : X.mg "isinstance" = none) (g2 : glB N.sc (Str.ofString (tyN t)) = true) (m2 : X.mg (Str.ofString (tyN t)) = none) :
    PE X (.Call (.Name "isinstance" p) [x, .Name (Str.ofString (tyN t)) p2] [] pos) (tE W X.K C (.isi a t)) := by
  have hT : PE X (.Name (Str.ofString (tyN t)) p2) (tC (.ty (tyN t))) := pe_bltn (glB_ok ok g2) m2 (ty_boot t) rfl (ty_dbg t).1 (ty_dbg t).2
  refine PE_imp (pe_callB call_isi (glB_ok ok g1) m1 (by decide +kernel) (pa_cons ha (pa_cons hT pa_nil) (star_cons hn)) (by decide +kernel) (by decide +kernel) (star_cons hn)) fun σ H Q ⟨G, H0, mu0, mu, s, R, h⟩ => ⟨G, H0, mu0, mu, s, R, ?_⟩
  rw [ev] at h
  refine (Post.bind (Rv := RvE X.K G H0 mu0 σ) bkE h).imp fun v H1 ⟨r, mu1, s1, _, nx, rv, h⟩ => ?_
  split at h
  · rename_i d e1
    have d1 := rv.w.res nx.rel e1
    have hk : PySem.W.kitOne X.K (.type (kdN d)) (.type (tyN t)) = some (isiD d t) := by rw [isi_eq]; exact kit_all X.K (kdOf d) t
    exact ⟨v, .ty (tyN t), _, _, _, rfl, .ty _, tyx_of hid_le d1, hk, h.pure nx.rel (.bl _)⟩
  · exact h.elim
/-! ### append, extend -/
theorem few1 {e : Expr} {env : Env} {pos : Pos} (hn : noStar e = true) : ((backTo pos (starEach [e] env)).all (fun x => !x.1) && (backToKw pos (keywordEach [] env)).all (fun x => x.1.isSome)
      && decide (([e] : List Expr).length + ([] : List Keyword).length + (if ([] : List Keyword).isEmpty then 0 else 1) < 30)) = true := by
  rw [star_cons hn]; rfl
theorem s_app (ok : XOk X W C N) {i : Nat} {c : CE} {x : Str} {e : Expr} {p ap pos : Pos} (hx : nmOk N i x = true) (he : PE X e (tE W X.K C c)) (hn : noStar e = true) (hl : (ap.endLine == pos.line) = true) :
    PE X (.Call (.Attribute (.Name x p) "append" ap) [e] [] pos) (tE W X.K C (.app i c)) := by
  have hv : PE X (.Name x p) (tVar i) := by
    unfold nmOk at hx
    rw [Bool.and_eq_true, Bool.and_eq_true, decide_eq_true_eq] at hx
    obtain ⟨⟨h1, h2⟩, h3⟩ := hx
    obtain ⟨d1, d2⟩ := dbg_ok h3
    exact pe_var (i := i) (by rw [ok.nm]; exact h1) (by rw [ok.sc]; exact visB_ok h2) d1 d2
  refine PE_imp (pe_bm PySem.F.plainAttrs_list PySem.F.slot_list_append PySem.F.type_list_append (mt_append (X := X)) hv (pa_cons he pa_nil (star_cons hn)) rfl (few1 hn) hl (star_cons hn) rfl) fun σ H Q ⟨G, H0, mu0, mu, s, R, h⟩ => ?_
  rw [ev] at h
  split at h
  · rename_i xs0 e0
    obtain ⟨o, e1, a, vs0, e2, e3, e4⟩ := R.slots i _ e0
    subst e2
    refine ⟨_, e1, .inl ⟨rfl, _, .of e3⟩, G, H0, mu0, mu, s, R, ?_⟩
    refine (Post.bind (Rv := RvE X.K G H0 mu0 σ) bkE h).imp fun v H1 ⟨r, mu1, s1, _, nx, rv, h⟩ => ?_
    cases q : s1.escD r with
    | exc c fs s2 => rw [q] at h; exfalso; unfold Sg.escD at q; cases q2 : s1.esc r with
      | exc c fs s3 => exact esc_noexc q2
      | stuck => rw [q2] at q; cases q
      | ok r2 s3 => rw [q2] at q; cases r2 <;> cases q
    | stuck => rw [q] at h; exact h.elim
    | ok d s2 =>
      rw [q] at h
      obtain ⟨nx2, dp⟩ := escD_nx nx.rel rv.w q
      have h := Post.on bkE nx2 h
      simp only [O.bind] at h
      split at h
      · rename_i xs e5
        split at h
        · rename_i hlim
          obtain ⟨o, q1, b, vs, q2, q3, q4⟩ := nx2.rel.slots i _ e5
          rw [e1] at q1; cases q1; cases q2
          refine ⟨a, vs, v, rfl, rfl, q3, by rw [daLen q4]; exact hlim, ?_⟩
          exact h .non mu1 _ (nx2.rel.mut e5 e1 q3 (daApp q4 (daOne dp))) .non
        · exact h.elim
      · exact h.elim
  · exact h.elim
/-- extend by a list, wherever it stands -/
theorem list_extW (l : Addr) (items : Array Value) (n : Nat) (b : Addr) (items2 : Array Value) (n2 : Nat) (sl2 : Array (Option Value)) (hc0 : ¬(!items.isEmpty && Builtin.List.listTooLong (items.size + items2.size)) = true) (hc1 : items.size ≤ sizeLine) (hs2 : items.size + items2.size ≤ sizeLine + 1) :
    Meets (Builtin.«list.extend» ⟨[.ref l, .ref b], []⟩) (fun _ R s => s.heap.get? l = some { cls := .type "list", dict := none, data := .seq items n, slots := #[] } ∧ s.heap.get? b = some { cls := .type "list", dict := none, data := .seq items2 n2, slots := sl2 } ∧ R (.ok (.ret Value.none)) { s with heap := s.heap.update l (Obj.mapSeq fun x => x ++ items2), toks := s.toks }) :=
  .of_wp fun prog w A R s h => by
    obtain ⟨hp, g, d, tk, os⟩ := s; obtain ⟨hl, hb, h⟩ := h; have f1 := AutoSeq1.idx_int; have f2 := AutoSeq1.sub_tuple_tuple; have f3 := AutoSeq1.sub_list_list; have f4 := AutoSeq1.sub_tuple_list; have f5 := AutoSeq1.sub_list_tuple;
    have hz' : (items ++ items2).size ≤ sizeLine + 1 := by rw [Array.size_append]; exact hs2
    wp_walk using (wpAny_updateSeq hl rfl (hz := hc1) (_hz' := hz')), AutoSeq1.wpAny_loadPart' hl, AutoSeq1.wpAny_loadPart' hb; exact ⟨_, rfl, h⟩
def rExtL (K : Fg) : V → List V → Hp → VK → Prop := fun x vs H Q => ∃ l b xs zs, x = .ref l ∧ vs = [.ref b] ∧ H l = some (.lst xs) ∧ SqL K H b zs ∧ xs.length + zs.length ≤ sizeLine ∧ Q .non (upd H l (.lst (xs ++ zs)))
theorem mt_extL : MtR X "list.extend" (rExtL X.K) := by
  intro pins s σ H x vs v us Q I rx rv h
  obtain ⟨l, b, xs, zs, rfl, rfl, hH, hB, hz, q⟩ := h
  cases rx
  obtain ⟨u, rfl, ru⟩ := rv.one
  cases ru
  obtain ⟨z, its, n, r, hl, e⟩ := I.lstM hH
  obtain ⟨its2, n2, sl2, r2, z2, e2⟩ := Inv.plain I hB
  have hl2 := r2.length
  have hsz : its.toArray.size + its2.toArray.size ≤ sizeLine := by rw [List.size_toArray, List.size_toArray]; omega
  have hlong : ¬ (!its.toArray.isEmpty && Builtin.List.listTooLong (its.toArray.size + its2.toArray.size)) = true := by
    rw [notLongL hsz, Bool.and_false]
    exact Bool.false_ne_true
  refine call_meets PySem.F.slot_list_extend ⟨_, e, rfl⟩ PySem.F.entry_list_extend (PySem.F.args_list_extend_2 _ _)
    (list_extW l its.toArray n b its2.toArray n2 sl2 hlong (by rw [List.size_toArray]; omega) (by omega)) ⟨e, e2, ?_⟩
  refine ⟨.non, _, I.lset (its' := its ++ its2) hH e (by simp) (r.append r2) ?_, rfl, q⟩
  rw [List.length_append]
  omega
theorem s_ext (ok : XOk X W C N) {i : Nat} {c : CE} {x : Str} {e : Expr} {p ap pos : Pos} (hx : nmOk N i x = true) (he : PE X e (tE W X.K C c)) (hn : noStar e = true) (hl : (ap.endLine == pos.line) = true) :
    PE X (.Call (.Attribute (.Name x p) "extend" ap) [e] [] pos) (tE W X.K C (.ext i c)) := by
  have hv : PE X (.Name x p) (tVar i) := by
    unfold nmOk at hx
    rw [Bool.and_eq_true, Bool.and_eq_true, decide_eq_true_eq] at hx
    obtain ⟨⟨h1, h2⟩, h3⟩ := hx
    obtain ⟨d1, d2⟩ := dbg_ok h3
    exact pe_var (i := i) (by rw [ok.nm]; exact h1) (by rw [ok.sc]; exact visB_ok h2) d1 d2
  refine PE_imp (pe_bm PySem.F.plainAttrs_list PySem.F.slot_list_extend PySem.F.type_list_extend (mt_extL (X := X)) hv (pa_cons he pa_nil (star_cons hn)) rfl (few1 hn) hl (star_cons hn) rfl) fun σ H Q ⟨G, H0, mu0, mu, s, R, h⟩ => ?_
  rw [ev] at h
  split at h
  · rename_i xs0 e0
    obtain ⟨o, e1, a, vs0, e2, e3, e4⟩ := R.slots i _ e0
    subst e2
    refine ⟨_, e1, .inl ⟨rfl, _, .of e3⟩, G, H0, mu0, mu, s, R, ?_⟩
    refine (Post.bind (Rv := RvE X.K G H0 mu0 σ) bkE h).imp fun v H1 ⟨r, mu1, s1, _, nx, rv, h⟩ => ?_
    split at h
    · rename_i ys xs e5 e6
      have d1 := rv.w.res nx.rel e5
      obtain ⟨b, ws, rfl, hb, db⟩ := d1.lst hid_le
      split at h
      · rename_i hlim
        obtain ⟨o, q1, b', vs, q2, q3, q4⟩ := nx.rel.slots i _ e6
        rw [e1] at q1; cases q1; cases q2
        refine ⟨a, b, vs, ws, rfl, rfl, q3, hb, by rw [daLen q4, daLen db]; exact hlim, ?_⟩
        exact h .non mu1 _ (nx.rel.mut e6 e1 q3 (daApp q4 db)) .non
      · exact h.elim
    · exact h.elim
  · exact h.elim
end
end Pur
end
section
set_option Elab.async false
set_option linter.all false
set_option maxHeartbeats 1000000
namespace Pur
open PySem PySem.Spec L2
section
variable {W : Xw} {K : Fg} {G G' : Addr → Prop} {H0 H H1 H' : Hp} {mu0 mu mu' : List Addr} {s s' : Sg} {σ σ' : St} {α β γ δ : Type}
/-- more is hidden meanwhile -/
theorem Nx.widen (t : Tm (hid G s.env σ H) (hid G' s.env σ H1)) (hG : ∀ a, G a → G' a) (dom : ∀ a, H a ≠ none → H1 a ≠ none) (gk : ∀ a, G a → H1 a = H a) (lt : ∀ (i : Nat) (xs : List D) a, s.env[i]? = some (EV.lent xs) → σ[i]? = some (some (V.ref a)) → H1 a = H a) (nx : Nx K G' H0 mu0 mu s σ H1 mu' s' σ' H') : Nx K G H0 mu0 mu s σ H mu' s' σ' H' :=
  ⟨nx.rel.less hG, nx.pre, (t.trans nx.tm).trans (hid_mono hG), fun a h => nx.dom a (dom a h), fun a h => (nx.gk a (hG a h)).trans (gk a h), fun i xs h => let ⟨h1, h2⟩ := nx.lk i xs h; ⟨h1, fun a z => let ⟨z1, z2⟩ := h2 a z; ⟨z1, z2.trans (lt i xs a h z)⟩⟩⟩
theorem Post.bindG {R1 : Rvt α β} {R2 : Rvt γ δ} {m : O α} {f : α → Sg → O γ} {Q : δ → Hp → Prop} (wm : Wm W) (bk : Bk R2) (t : Tm (hid G s.env σ H) (hid G' s.env σ H1)) (hG : ∀ a, G a → G' a) (dom : ∀ a, H a ≠ none → H1 a ≠ none) (gk : ∀ a, G a → H1 a = H a) (lt : ∀ (i : Nat) (xs : List D) a, s.env[i]? = some (EV.lent xs) → σ[i]? = some (some (V.ref a)) → H1 a = H a)
    (h : Post W K G H0 mu0 σ R2 mu s H (m.bind f) Q) :
    Post W K G' H0 mu0 σ R1 mu s H1 m (fun b H' => ∃ a mu' s', m = .ok a s' ∧ Nx K G' H0 mu0 mu s σ H1 mu' s' σ H' ∧ R1 H1 mu' s' H' a b ∧ Nx K G H0 mu0 mu s σ H mu' s' σ H' ∧ Post W K G H0 mu0 σ R2 mu' s' H' (f a s') Q) := by
  cases m with
  | ok a s' =>
    intro b mu' H' nx rv
    have nx2 := nx.widen t hG dom gk lt
    exact ⟨a, mu', s', rfl, nx, rv, nx2, Post.on bk nx2 h⟩
  | exc c fs s' => exact fun mu' H' nx => wm _ _ _ _ _ _ _ _ _ _ hG (h mu' H' (nx.widen t hG dom gk lt))
  | stuck => exact h
end
def trsOf (W : Xw) (K : Fg) (C : Cn) : List Ky → CEs → List (TE × TE)
  | k :: ks, .cons c cs => (tC (kV k), tE W K C c) :: trsOf W K C ks cs
  | _, _ => []
theorem escD_noexc {s s1 : Sg} {r : RV} {c : Nat} {fs : List D} (q : s.escD r = .exc c fs s1) : False := by
  unfold Sg.escD at q
  cases q2 : s.esc r with
  | exc c fs s3 => exact esc_noexc q2
  | stuck => rw [q2] at q; cases q
  | ok r2 s3 => rw [q2] at q; cases r2 <;> cases q
section
variable {X : Cx} {W : Xw} {C : Cn} {N : Nm}
theorem pairs_of {K : Fg} {G : Addr → Prop} {H0 : Hp} {mu0 : List Addr} {σ : St} : ∀ (ks : List Ky) (cs : CEs) {mu : List Addr} {s : Sg} {H : Hp} {Q : List V → Hp → Prop}, ks.length = cs.len → Rel K G H0 mu0 mu s σ H → Post W K G H0 mu0 σ (RvD K G σ) mu s H (evDs C cs s) Q →
    tPairs (trsOf W K C ks cs) σ H (fun ps H3 => ∃ vs, ps = (ks.zip vs).map (fun kv => (kV kv.1, kv.2)) ∧ vs.length = ks.length ∧ Q vs H3)
  | [], .nil, _, _, _, _, _, R, h => ⟨[], rfl, rfl, h.pure R DpAll.nil⟩
  | k :: ks, .cons c cs, mu, s, H, Q, hl, R, h => by
    have hl' : ks.length = cs.len := by
      simp only [List.length_cons, CEs.len] at hl
      omega
    refine ⟨G, H0, mu0, mu, s, R, ?_⟩
    rw [evDs] at h
    refine (Post.bind (Rv := RvE K G H0 mu0 σ) bkD h).imp fun v H1 ⟨r, mu1, s1, _, nx, rv, h⟩ => ?_
    cases q : s1.escD r with
    | exc c fs s2 => exact (escD_noexc q).elim
    | stuck => rw [q] at h; exact h.elim
    | ok d s2 =>
      rw [q] at h
      obtain ⟨nx2, dp⟩ := escD_nx nx.rel rv.w q
      have h := Post.on bkD nx2 h
      have h2 := pairs_of ks cs hl' nx2.rel (Post.bind (Rv := RvD K G σ) bkD h)
      have mono : ∀ (trs : List (TE × TE)), trs = trsOf W K C ks cs → True := fun _ _ => trivial
      refine tPairs_imp ks cs h2 fun ps H3 ⟨vs, e, l, ds, mu3, s3, _, nx3, rv3, h⟩ => ?_
      exact ⟨v :: vs, by rw [e]; rfl, by simp [l], h.pure nx3.rel (DpAll.cons (dpT nx3.tm dp) rv3)⟩
  | [], .cons _ _, _, _, _, _, hl, _, _ => by simp [CEs.len] at hl
  | _ :: _, .nil, _, _, _, _, hl, _, _ => by simp [CEs.len] at hl
where tPairs_imp {K : Fg} {σ : St} : ∀ (ks : List Ky) (cs : CEs) {H : Hp} {Q Q' : List (V × V) → Hp → Prop}, tPairs (trsOf W K C ks cs) σ H Q → (∀ ps H3, Q ps H3 → Q' ps H3) → tPairs (trsOf W K C ks cs) σ H Q'
  | [], .nil, _, _, _, h, q => q _ _ h
  | [], .cons _ _, _, _, _, h, q => q _ _ h
  | _ :: _, .nil, _, _, _, h, q => q _ _ h
  | k :: ks, .cons c cs, H, Q, Q', ⟨G, H0, mu0, mu, s, R, h⟩, q => ⟨G, H0, mu0, mu, s, R, h.imp fun v H1 h => tPairs_imp ks cs h fun ps H3 z => q _ _ z⟩
theorem kvr_put {K : Fg} {M : Hp} {k : Ky} {v : V} {d : D} (g : Dp K M v d) {vs : List (Ky × V)} {kvs : List (Ky × D)} (h : KvR K M vs kvs) : KvR K M (putK vs k v) (putKy kvs k d) := by
  have e1 : ∀ {vs : List (Ky × V)} {kvs : List (Ky × D)}, KvR K M vs kvs → (vs.any fun kv => decide (kv.1 = k)) = kvs.any fun kv => decide (kv.1 = k) := by
    intro vs kvs h
    induction h with
    | nil => rfl
    | cons r t ih => simp only [List.any_cons, r.1, ih]
  have e2 : ∀ {vs : List (Ky × V)} {kvs : List (Ky × D)}, KvR K M vs kvs → KvR K M (vs.map fun kv => if kv.1 = k then (kv.1, v) else kv) (kvs.map fun kv => if kv.1 = k then (kv.1, d) else kv) := by
    intro vs kvs h
    induction h with
    | nil => exact .nil
    | @cons p q ps qs r t ih =>
      refine .cons ?_ ih
      show (if p.1 = k then (p.1, v) else p).1 = (if q.1 = k then (q.1, d) else q).1 ∧ Dp K M (if p.1 = k then (p.1, v) else p).2 (if q.1 = k then (q.1, d) else q).2
      by_cases z : q.1 = k
      · rw [if_pos z, if_pos (r.1.trans z)]; exact ⟨r.1, g⟩
      · rw [if_neg z, if_neg fun w => z (r.1.symm.trans w)]; exact r
  have e3 : ∀ {vs : List (Ky × V)} {kvs : List (Ky × D)}, KvR K M vs kvs → KvR K M (vs ++ [(k, v)]) (kvs ++ [(k, d)]) := by
    intro vs kvs h
    induction h with
    | nil => exact .cons ⟨rfl, g⟩ .nil
    | cons r t ih => exact .cons r ih
  unfold putK putKy
  rw [e1 h]
  split
  · exact e2 h
  · exact e3 h
theorem kvr_merge {K : Fg} {M : Hp} : ∀ (ks : List Ky) {vs : List V} {ds : List D} {a : List (Ky × V)} {b : List (Ky × D)}, DpAll K M vs ds → KvR K M a b → KvR K M (mergeK a (ks.zip vs)) ((ks.zip ds).foldl (fun acc kv => putKy acc kv.1 kv.2) b)
  | [], _, _, _, _, _, h => h
  | k :: ks, _, _, a, b, .nil, h => h
  | k :: ks, _, _, a, b, .cons g t, h => kvr_merge ks t (kvr_put g h)
/-- a new dict joins the store -/
theorem Rel.newDict {K : Fg} {G : Addr → Prop} {H0 H : Hp} {mu0 mu : List Addr} {s : Sg} {σ : St} {p : Addr} {vs : List (Ky × V)} {kvs : List (Ky × D)} (R : Rel K (add1 G p) H0 mu0 mu s σ H) (h0 : H0 p = none) (hg : ¬ G p) (hk : KvR K (hid (add1 G p) s.env σ H) vs kvs) :
    Rel K G H0 mu0 (mu ++ [p]) { s with sto := s.sto ++ [kvs] } σ (upd H p (.dK vs)) ∧ Tm (hid (add1 G p) s.env σ H) (hid G s.env σ (upd H p (.dK vs))) := by
  obtain ⟨p1, p2, p3⟩ := R.dom p (.inr rfl)
  have t : Tm (hid (add1 G p) s.env σ H) (hid G s.env σ (upd H p (.dK vs))) := fun a o e _ => by
    obtain ⟨h1, h2, h3⟩ := hid_some e
    rw [hid_yes (fun z => h1 (.inl z)) h2, upd_ne fun z => h1 (.inr z)]; exact h3
  refine ⟨⟨R.len, fun i e q => ?_, R.inj, ?_, fun n kv a q1 q2 => ?_, ?_, fun a z => ?_, fun a o e n => ?_, R.new, ?_⟩, t⟩
  · obtain ⟨o, e1, e2⟩ := R.slots i e q
    refine ⟨o, e1, EvR.mono t (fun a xs z1 z2 => upd_ne fun z => ?_) (fun n a z => ?_) e2⟩
    · subst z1 z
      rcases z2 with z2 | z2
      · subst z2; exact p2 ⟨i, xs, .inl q, e1⟩
      · subst z2; exact p2 ⟨i, xs, .inr q, e1⟩
    · obtain ⟨hn, _⟩ := List.getElem?_eq_some_iff.mp z
      rw [List.getElem?_append_left hn]; exact z
  · show (mu ++ [p]).length = (s.sto ++ [kvs]).length
    simp [R.stl]
  · have q1 : (s.sto ++ [kvs])[n]? = some kv := q1
    by_cases hn : n < mu.length
    · rw [List.getElem?_append_left hn] at q2
      rw [List.getElem?_append_left (by rw [← R.stl]; exact hn)] at q1
      obtain ⟨ws, h1, h2⟩ := R.sto n kv a q1 q2
      exact ⟨ws, (upd_ne fun (z : a = p) => p3 (z ▸ List.mem_of_getElem? q2)).trans h1, KvR.tm t h2⟩
    · have hl : n < (mu ++ [p]).length := (List.getElem?_eq_some_iff.mp q2).1
      rw [List.length_append, List.length_singleton] at hl
      have e : n = mu.length := by omega
      subst e
      rw [List.getElem?_append_right (Nat.le_refl _), Nat.sub_self] at q2
      cases q2
      rw [R.stl, List.getElem?_append_right (Nat.le_refl _), Nat.sub_self] at q1
      cases q1
      exact ⟨vs, upd_same, KvR.tm t hk⟩
  · rw [List.nodup_append]
    refine ⟨R.nd, by simp, fun a ha b hb => ?_⟩
    rw [List.mem_singleton] at hb
    subst hb
    exact fun z => p3 (z ▸ ha)
  · obtain ⟨h1, h2, h3⟩ := R.dom a (.inl z)
    have ne : a ≠ p := fun q => hg (q ▸ z)
    refine ⟨by rw [upd_ne ne]; exact h1, h2, fun q => ?_⟩
    rcases List.mem_append.mp q with q | q
    · exact h3 q
    · exact ne (List.mem_singleton.mp q)
  · have ne : a ≠ p := fun q => by rw [q, h0] at e; cases e
    rw [upd_ne ne]; exact R.ext a o e n
  · obtain ⟨m, rfl, hm⟩ := R.pre
    refine ⟨m ++ [p], by rw [List.append_assoc], fun a ha => ?_⟩
    rcases List.mem_append.mp ha with q | q
    · exact hm a q
    · rw [List.mem_singleton] at q; subst q; exact h0
theorem Rel.h0 {K : Fg} {G : Addr → Prop} {H0 H : Hp} {mu0 mu : List Addr} {s : Sg} {σ : St} {p : Addr} (R : Rel K G H0 mu0 mu s σ H) (hp : H p = none) : H0 p = none := by
  cases e : H0 p with
  | none => rfl
  | some o =>
    by_cases q : p ∈ mu0
    · obtain ⟨m, rfl, _⟩ := R.pre
      exact (R.noMu hp (List.mem_append_left _ q)).elim
    · rw [R.ext p o e q] at hp; cases hp
theorem s_dict (ok : XOk X W C N) {ks : List Ky} {cs : CEs} {keys : List (Option Expr)} {vals : List Expr} {pos : Pos} (hp : PPs X pos keys vals (trsOf W X.K C ks cs)) (hall : keys.all (·.isSome) = true) (hl : keys.length = vals.length) (h0 : keys ≠ []) (hk : ks.length = cs.len)
    (hfold : keys.length ≤ 15) : PE X (.Dict keys vals pos) (tE W X.K C (.dict ks cs)) := by
  refine PE_imp (pe_disp hp hall hl h0 hfold) fun σ H Q ⟨G, H0, mu0, mu, s, R, h⟩ => ?_
  intro p hpn
  rw [ev] at h
  have R1 := R.new1 (o := .dK []) hpn
  have hgp := R.noG hpn
  have b := Post.bindG (R1 := RvD X.K (add1 G p) σ) (G' := add1 G p) (H1 := upd H p (.dK [])) ok.wm bkE (tm_new hpn) (fun a z => .inl z) (fun a z => by
    by_cases q : a = p
    · subst q; rw [upd_same]; exact fun w => by cases w
    · rw [upd_ne q]; exact z) (fun a z => upd_ne fun (q : a = p) => hgp (q ▸ z)) (fun i xs a q z => upd_ne fun (w : a = p) => R.noOwn hpn (w ▸ ⟨i, xs, .inr q, z⟩)) h
  refine pairs_of.tPairs_imp ks cs (pairs_of ks cs hk R1 b) fun ps H2 ⟨vs, e, l, ds, mu2, s2, _, nx', rv, nx, h⟩ => ?_
  have hp2 : H2 p = some (.dK []) := (nx'.gk p (.inr rfl)).trans upd_same
  split at h
  · rename_i hlen
    refine ⟨hp2, ks.zip vs, e, by rw [List.length_zip]; omega, ?_⟩
    obtain ⟨R3, t3⟩ := nx'.rel.newDict (R.h0 hpn) hgp (kvr_merge ks rv .nil)
    refine h _ (mu2 ++ [p]) _ ⟨R3, ⟨[p], rfl⟩, ?_, fun a z => ?_, fun a z => ?_, fun i xs q => ⟨q, fun a z => ⟨z, upd_ne fun w => ?_⟩⟩⟩ ⟨p, rfl, ?_⟩
    · -- what stood in sight stands in sight
      intro a o ea na
      obtain ⟨g1, g2, g3⟩ := hid_some ea
      have ne : a ≠ p := fun q => by
        subst q
        rw [hp2] at g3; cases g3
        exact na _ rfl
      show hid G s2.env σ _ a = _
      rw [hid_yes g1 g2, upd_ne ne]; exact g3
    · by_cases q : a = p
      · subst q; rw [upd_same]; exact fun w => by cases w
      · rw [upd_ne q]; exact z
    · exact upd_ne fun (q : a = p) => hgp (q ▸ z)
    · subst w
      exact (nx'.rel.dom a (.inr rfl)).2.1 ⟨i, xs, .inr q, z⟩
    · rw [← nx.rel.stl, List.getElem?_append_right (Nat.le_refl _), Nat.sub_self]; rfl
  · exact h.elim
end
end Pur
end
section
set_option Elab.async false
set_option linter.all false
set_option maxHeartbeats 1000000
namespace Pur
open PySem PySem.Spec L2
mutual
def Tg.sl : Tg → List Nat
  | .nm i => [i]
  | .tup ts => ts.sl
def Tgs.sl : Tgs → List Nat
  | .nil => []
  | .cons t ts => t.sl ++ ts.sl
end
mutual
def chkT : Tg → Nm → Expr → Bool
  | .nm i, N, .Name x _ => decide (N.N[i]? = some x) && stB N x
  | .tup ts, N, .Tuple es _ _ => chkTs ts N es
  | _, _, _ => false
def chkTs : Tgs → Nm → List Expr → Bool
  | .nil, _, [] => true
  | .cons t ts, N, e :: es => chkT t N e && chkTs ts N es
  | _, _, _ => false
end
section
variable {K : Fg} {G : Addr → Prop} {H0 H : Hp} {mu0 mu : List Addr} {s s' : Sg} {σ σ' : St} {v : V}
theorem freeAt_ok {env : List EV} {i : Nat} (h : freeAt env i = true) : ∃ e, env[i]? = some e ∧ ∀ xs, e ≠ .lent xs := by
  unfold freeAt at h
  split at h
  · cases h
  · rename_i e h1 h2; exact ⟨e, h2, fun xs z => h1 xs (z ▸ rfl)⟩
  · cases h
/-- a slot is stored to -/
theorem Rel.store (R : Rel K G H0 mu0 mu s σ H) {i : Nat} {e' : EV} {v : V} (h : freeAt s.env i = true) (hn : ∀ xs, e' ≠ .own xs ∧ e' ≠ .lent xs) (hv : ∀ M, Tm (hid G s.env σ H) M → EvR K M mu H (some v) e') :
    Nx K G H0 mu0 mu s σ H mu { s with env := s.env.set i e' } (σ.set i (some v)) H := by
  obtain ⟨e, he, ne⟩ := freeAt_ok h
  obtain ⟨hi, _⟩ := List.getElem?_eq_some_iff.mp he
  have hi' : i < σ.length := by rw [← R.len]; exact hi
  have at_ : ∀ {j ys}, OwnAt (s.env.set i e') j ys → j ≠ i ∧ OwnAt s.env j ys := fun {j ys} h => by
    by_cases q : i = j
    · subst q
      unfold OwnAt at h
      rw [List.getElem?_set_self hi] at h
      rcases h with h | h
      · exact absurd (Option.some.inj h) (hn ys).1
      · exact absurd (Option.some.inj h) (hn ys).2
    · unfold OwnAt at h
      rw [List.getElem?_set_ne q] at h
      exact ⟨fun z => q z.symm, h⟩
  have sg : ∀ {j : Nat}, j ≠ i → (σ.set i (some v))[j]? = σ[j]? := fun h => List.getElem?_set_ne fun z => h z.symm
  have sub : ∀ b, ownA (s.env.set i e') (σ.set i (some v)) b → ownA s.env σ b := fun b ⟨j, ys, h, z⟩ => by
    obtain ⟨n, h⟩ := at_ h
    rw [sg n] at z
    exact ⟨j, ys, h, z⟩
  have t : Tm (hid G s.env σ H) (hid G (s.env.set i e') (σ.set i (some v)) H) := Tm.msk fun b z => z.elim .inl fun q => .inr (sub b q)
  refine ⟨⟨?_, ?_, ?_, R.stl, ?_, R.nd, fun b z => ⟨(R.dom b z).1, fun q => (R.dom b z).2.1 (sub b q), (R.dom b z).2.2⟩, R.ext, fun b z => R.new b (sub b z), R.pre⟩, ⟨[], by simp⟩, t, fun _ h => h, fun _ _ => rfl, fun j ys h => ⟨?_, fun _ z => ⟨?_, rfl⟩⟩⟩
  · show (s.env.set i _).length = _
    rw [List.length_set, List.length_set]; exact R.len
  · intro j ev q
    by_cases hj : i = j
    · subst hj
      have q : (s.env.set i e')[i]? = some ev := q
      rw [List.getElem?_set_self hi] at q
      cases q
      exact ⟨some v, List.getElem?_set_self hi', hv _ t⟩
    · have q : (s.env.set i e')[j]? = some ev := q
      rw [List.getElem?_set_ne hj] at q
      obtain ⟨o, q1, q2⟩ := R.slots j ev q
      exact ⟨o, (sg fun z => hj z.symm).trans q1, EvR.mono t (fun _ _ _ _ => rfl) (fun _ _ z => z) q2⟩
  · intro j k ys zs b h1 h2 z1 z2
    obtain ⟨n1, g1⟩ := at_ h1
    obtain ⟨n2, g2⟩ := at_ h2
    rw [sg n1] at z1
    rw [sg n2] at z2
    exact R.inj j k ys zs b g1 g2 z1 z2
  · intro n kvs b q1 q2
    obtain ⟨ws, h1, h2⟩ := R.sto n kvs b q1 q2
    exact ⟨ws, h1, KvR.tm t h2⟩
  · have hj : j ≠ i := fun q => by
      rw [q, he] at h
      exact ne ys (Option.some.inj h)
    exact (List.getElem?_set_ne fun z => hj z.symm).trans h
  · have hj : j ≠ i := fun q => by
      rw [q, he] at h
      exact ne ys (Option.some.inj h)
    rw [sg hj]; exact z
/-- only these slots have changed -/
structure Slo (l : List Nat) (σ σ' : St) : Prop where
  len : σ'.length = σ.length
  at_ : ∀ j, j ∉ l → σ'[j]? = σ[j]?
theorem Slo.refl {l : List Nat} {σ : St} : Slo l σ σ := ⟨rfl, fun _ _ => rfl⟩
theorem Slo.app {l m : List Nat} {σ σ1 σ2 : St} (a : Slo l σ σ1) (b : Slo m σ1 σ2) : Slo (l ++ m) σ σ2 := ⟨b.len.trans a.len, fun j h => (b.at_ j fun z => h (List.mem_append_right _ z)).trans (a.at_ j fun z => h (List.mem_append_left _ z))⟩
theorem Slo.set {i : Nat} {σ : St} {o : Option V} : Slo [i] σ (σ.set i o) := ⟨List.length_set, fun j h => List.getElem?_set_ne fun z => h (by simp [z])⟩
end
/-- the reading of a target -/
def gT (K : Fg) (t : Tg) : TG := fun v σ H Q => ∃ G H0 mu0 mu s d s', Rel K G H0 mu0 mu s σ H ∧ Dp K (hid G s.env σ H) v d ∧ setT t d s = some s' ∧ ∀ σ', Nx K G H0 mu0 mu s σ H mu s' σ' H → Slo t.sl σ σ' → Q σ' H
def gTs (K : Fg) (t : Tgs) : TGs := fun vs σ H Q => ∃ G H0 mu0 mu s ds s', Rel K G H0 mu0 mu s σ H ∧ DpAll K (hid G s.env σ H) vs ds ∧ setTs t ds s = some s' ∧ ∀ σ', Nx K G H0 mu0 mu s σ H mu s' σ' H → Slo t.sl σ σ' → Q σ' H
theorem PG_imp {X : Cx} {e : Expr} {t t' : TG} (h : PG X e t) (q : ∀ v σ H Q, t' v σ H Q → t v σ H Q) : PG X e t' := ⟨fun pins s σ H v u Q I r z => h.run pins s σ H v u Q I r (q v σ H Q z)⟩
theorem PGs_imp {X : Cx} {e : List Expr} {t t' : TGs} (h : PGs X e t) (q : ∀ v σ H Q, t' v σ H Q → t v σ H Q) : PGs X e t' := ⟨fun pins s σ H v u Q I r z => h.run pins s σ H v u Q I r (q v σ H Q z)⟩
section
variable {X : Cx} {W : Xw} {C : Cn} {N : Nm}
theorem chkT_star : ∀ {t : Tg} {N : Nm} {e : Expr}, chkT t N e = true → noStar e = true
  | .nm _, _, e, h => by cases e <;> first | rfl | (cases h)
  | .tup _, _, e, h => by cases e <;> first | rfl | (cases h)
theorem asgEach_cons {e : Expr} {es : List Expr} {env : Env} (h : noStar e = true) : assignEach (e :: es) env = (false, assign e env) :: assignEach es env := by
  cases e <;> first | rfl | (cases h)
theorem chkTs_each : ∀ {ts : Tgs} {N : Nm} {es : List Expr} {env : Env}, chkTs ts N es = true → (assignEach es env).length = es.length ∧ (assignEach es env).findIdx? (·.1) = none
  | .nil, _, [], _, _ => ⟨rfl, rfl⟩
  | .nil, _, _ :: _, _, h => by cases h
  | .cons _ _, _, [], _, h => by cases h
  | .cons t ts, N, e :: es, env, h => by
    unfold chkTs at h
    rw [Bool.and_eq_true] at h
    obtain ⟨h1, h2⟩ := chkTs_each (env := env) h.2
    rw [asgEach_cons (chkT_star h.1)]
    refine ⟨by simp [h1], ?_⟩
    rw [List.findIdx?_cons]
    simp [h2]
theorem chkTs_len : ∀ {ts : Tgs} {ds : List D} {s s' : Sg} {N : Nm} {es : List Expr}, setTs ts ds s = some s' → chkTs ts N es = true → ds.length = es.length
  | .nil, [], _, _, _, [], _, _ => rfl
  | .nil, [], _, _, _, _ :: _, _, h => by cases h
  | .nil, _ :: _, _, _, _, _, h, _ => by cases h
  | .cons _ _, [], _, _, _, _, h, _ => by cases h
  | .cons _ _, _ :: _, _, _, _, [], _, h => by cases h
  | .cons t ts, d :: ds, s, s', N, e :: es, h, h2 => by
    unfold chkTs at h2
    rw [Bool.and_eq_true] at h2
    unfold setTs at h
    split at h
    · simp [chkTs_len h h2.2]
    · cases h
mutual
theorem pg_of (ok : XOk X W C N) : ∀ (t : Tg) (e : Expr), chkT t N e = true → PG X e (gT X.K t)
  | .nm i, .Name x pos, h => by
    unfold chkT at h
    rw [Bool.and_eq_true, decide_eq_true_eq] at h
    obtain ⟨h1, h2⟩ := ok.st x h.2
    refine PG_imp (pg_name ok.nd (by rw [ok.nm]; exact h.1) h1 h2) fun v σ H Q ⟨G, H0, mu0, mu, s, d, s', R, dv, e, q⟩ => ?_
    unfold setT at e
    split at e
    · rename_i hf
      cases e
      exact q _ (R.store hf (fun xs => ⟨(fun z => by cases z), (fun z => by cases z)⟩) fun M t => ⟨v, rfl, dpT t dv⟩) .set
    · cases e
  | .tup ts, .Tuple es k pos, h => by
    unfold chkT at h
    obtain ⟨l1, l2⟩ := chkTs_each (env := X.env) h
    refine PG_imp (pg_tup ok.calm (pgs_of ok ts es h) l1 l2) fun v σ H Q ⟨G, H0, mu0, mu, s, d, s', R, dv, e, q⟩ => ?_
    cases d with
    | tuple ds =>
      unfold setT at e
      cases dv with
      | tup ha da =>
        exact ⟨_, _, rfl, (hid_le (G := G)).sqT ha, by rw [daLen da]; exact chkTs_len e h, G, H0, mu0, mu, s, ds, s', R, da, e, fun σ' nx sl => q σ' nx sl⟩
    | _ => cases e
theorem pgs_of (ok : XOk X W C N) : ∀ (ts : Tgs) (es : List Expr), chkTs ts N es = true → PGs X es (gTs X.K ts)
  | .nil, [], h => PGs_imp pgs_nil fun vs σ H Q ⟨G, H0, mu0, mu, s, ds, s', R, da, e, q⟩ => by
    cases ds with
    | nil =>
      cases e
      cases da
      exact ⟨rfl, q σ (.refl R) .refl⟩
    | cons _ _ => cases e
  | .cons t ts, e :: es, h => by
    unfold chkTs at h
    rw [Bool.and_eq_true] at h
    refine PGs_imp (pgs_cons (pg_of ok t e h.1) (pgs_of ok ts es h.2) (by rw [asgEach_cons (chkT_star h.1)]; rfl)) fun vs σ H Q ⟨G, H0, mu0, mu, s, ds, s', R, da, ez, q⟩ => ?_
    cases ds with
    | nil => cases ez
    | cons d ds =>
      cases da with
      | cons a b =>
        unfold setTs at ez
        split at ez
        · rename_i s1 e1
          refine ⟨_, _, rfl, G, H0, mu0, mu, s, d, s1, R, a, e1, fun σ1 nx sl => ?_⟩
          exact ⟨G, H0, mu0, mu, s1, ds, s', nx.rel, daT nx.tm b, ez, fun σ2 nx2 sl2 => q σ2 (nx.trans nx2) (sl.app sl2)⟩
        · cases ez
end
end
end Pur
end
section
set_option Elab.async false
set_option linter.all false
set_option maxRecDepth 100000
set_option maxHeartbeats 2000000
/-! zip(a, b, strict=True) of two tuples of one length -/
namespace ZS
open PySem PySem.Spec PyProof.Rows L2 RZ
open Sem (wp)
abbrev IsZipS (h : Heap) (z TI TO : Addr) (f0 : Value) : Prop :=
  h.get? z = some { cls := .type "zip", dict := none, data := .fields #[f0, .bool false, .bool true, .ref TI, .ref TO], slots := #[] }
section
variable {prog : Program} {w : World} {A : Around} {E : Value → Shared → Prop} {s : Shared}
theorem drawn_item {it l : Addr} {i : Nat} {items : Array Value} {x : Value} {Q : Option Value → Shared → Prop} (hit : s.heap.IsTupleIter it l i) (hl : s.heap.IsTuple l items) (hx : items[i]? = some x)
    (h : ∀ h', h'.IsTupleIter it l (i + 1) → Heap.SameBut it s.heap h' → Q (some x) { s with heap := h' }) : wpAny (model prog w) A (Builtin.SmallTypes.nextOrEnd (.ref it)) Q E s := by
  unfold Builtin.SmallTypes.nextOrEnd
  exact wpAny_bind (wpAny_attempt (nextOf_tuple_item hit hl hx fun h' a b => wpAny_pure (h h' a b)))
theorem drawn_end {it l : Addr} {i : Nat} {items : Array Value} {Q : Option Value → Shared → Prop} (hh : A.handled = none) (hit : s.heap.IsTupleIter it l i) (hl : s.heap.IsTuple l items) (hx : items[i]? = none)
    (h : ∀ h', Heap.ExtBut it s.heap h' → Q none { s with heap := h' }) : wpAny (model prog w) A (Builtin.SmallTypes.nextOrEnd (.ref it)) Q E s := by
  unfold Builtin.SmallTypes.nextOrEnd
  refine wpAny_bind (wpAny_attempt (nextOf_tuple_end hh hit hl hx fun h' e hk he => ?_))
  obtain ⟨o, ho, hc⟩ := he
  refine wpAny_bind (wpAny_isInstance (T := "StopIteration") (b := true) ⟨o, ho, hc⟩ isSubtype_stop ?_)
  exact wpAny_pure (h h' hk)
theorem next_item {z TI TO i1 i2 l1 l2 : Addr} {k1 k2 : Nat} {xs ys : Array Value} {x y a b : Value} {Q : Value → Shared → Prop} (D : ZipApart z TI TO i1 i2 l1 l2)
    (hz : IsZipS s.heap z TI TO .none) (hTI : IsPair s.heap TI (.ref i1) (.ref i2)) (hTO : IsPair s.heap TO a b)
    (h1 : s.heap.IsTupleIter i1 l1 k1) (h2 : s.heap.IsTupleIter i2 l2 k2) (hl1 : s.heap.IsTuple l1 xs) (hl2 : s.heap.IsTuple l2 ys) (hx : xs[k1]? = some x) (hy : ys[k2]? = some y)
    (hQ : ∀ h', IsZipS h' z TI TO (rawInt s.heap.objs.size) → IsPair h' TO x y → h'.IsTupleIter i1 l1 (k1 + 1) → h'.IsTupleIter i2 l2 (k2 + 1) → IsPair h' s.heap.objs.size x y → h'.objs.size = s.heap.objs.size + 1 →
      (∀ c o, c ≠ z → c ≠ TO → c ≠ i1 → c ≠ i2 → s.heap.get? c = some o → h'.get? c = some o) → Q (.ref s.heap.objs.size) { s with heap := h' }) :
    wpAny (model prog w) A (Builtin.«zip.__next__» ⟨[.ref z], []⟩) (fun fin s' => ∃ v, fin = .done (.ret v) ∧ Q v s') E s := by
  show wpAny _ _ (field (.ref z) 2 >>= _) _ _ _
  refine wpAny_bind (wpAny_field hz rfl (x := .bool true) rfl ?_)
  show wpAny _ _ (field (.ref z) 3 >>= _) _ _ _
  refine wpAny_bind (wpAny_field hz rfl (x := .ref TI) rfl ?_)
  refine wpAny_bind (wpAny_seqItems hTI rfl ?_)
  show wpAny _ _ (Builtin.SmallTypes.ownedTupleIsFree (.ref z) >>= _) _ _ _
  refine wpAny_bind ?_
  unfold Builtin.SmallTypes.ownedTupleIsFree
  refine wpAny_bind (wpAny_field hz rfl (x := .none) rfl (wpAny_pure ?_))
  simp only [if_true]
  refine wpAny_bind (wpAny_rule ?_)
  refine wpAny_bind (wpAny_field hz rfl (x := .ref TO) rfl ?_)
  refine wpAny_bind (wpAny_setField_rec hz (by simp) fun g1 z1 b1 => ?_)
  replace z1 : IsZipS g1 z TI TO .ellipsis := z1
  refine wpAny_bind ?_
  simp only [List.zipIdx_cons, List.zipIdx_nil, List.forIn_cons, List.forIn_nil]
  refine wpAny_bind (wpAny_bind (wpAny_onRaise ?_))
  show wpAny _ _ (Builtin.SmallTypes.nextOrEnd (.ref i1)) _ _ _
  refine drawn_item (h1.extBut b1.extBut D.i1z) (hl1.extBut b1.extBut D.l1z) hx fun g2 j1 b2 => ?_
  have p2 : IsPair g2 TO a b := b2.extBut _ _ D.TOi1 (b1.extBut _ _ D.TOz hTO)
  refine wpAny_bind (wpAny_seqItems p2 rfl ?_)
  refine wpAny_bind (wpAny_updateSeq_pair p2 fun g3 p3 b3 => ?_)
  replace p3 : IsPair g3 TO x b := p3
  refine wpAny_bind (wpAny_letGo (wpAny_pure ?_))
  refine wpAny_bind (wpAny_bind (wpAny_onRaise ?_))
  show wpAny _ _ (Builtin.SmallTypes.nextOrEnd (.ref i2)) _ _ _
  refine drawn_item (((h2.extBut b1.extBut D.i2z).extBut b2.extBut D.i12.symm).extBut b3.extBut D.TOi2.symm) (((hl2.extBut b1.extBut D.l2z).extBut b2.extBut D.l2i1).extBut b3.extBut D.l2TO) hy fun g4 j2 b4 => ?_
  have p4 : IsPair g4 TO x b := b4.extBut _ _ D.TOi2 p3
  refine wpAny_bind (wpAny_seqItems p4 rfl ?_)
  refine wpAny_bind (wpAny_updateSeq_pair p4 fun g5 p5 b5 => ?_)
  replace p5 : IsPair g5 TO x y := p5
  refine wpAny_bind (wpAny_letGo (wpAny_pure (wpAny_pure ?_)))
  refine wpAny_bind (wpAny_seqItems p5 rfl ?_)
  refine wpAny_bind (wpAny_newTuple ?_)
  have hsz : g5.objs.size = s.heap.objs.size := by rw [b5.1, b4.1, b3.1, b2.1, b1.1]
  have z5 : IsZipS g5 z TI TO .ellipsis := b5.extBut _ _ D.TOz.symm (b4.extBut _ _ D.i2z.symm (b3.extBut _ _ D.TOz.symm (b2.extBut _ _ D.i1z.symm z1)))
  have k5 : ∀ c o, c ≠ z → c ≠ TO → c ≠ i1 → c ≠ i2 → s.heap.get? c = some o → g5.get? c = some o := fun c o c1 c2 c3 c4 e =>
    b5.extBut _ _ c2 (b4.extBut _ _ c4 (b3.extBut _ _ c2 (b2.extBut _ _ c3 (b1.extBut _ _ c1 e))))
  have t1 : g5.IsTupleIter i1 l1 (k1 + 1) := ((j1.extBut b3.extBut D.TOi1.symm).extBut b4.extBut D.i12).extBut b5.extBut D.TOi1.symm
  have t2 : g5.IsTupleIter i2 l2 (k2 + 1) := j2.extBut b5.extBut D.TOi2.symm
  have hzlt : z < g5.objs.size := Heap.lt_size z5
  show wpAny _ _ (Builtin.SmallTypes.ownedTupleHandOut (.ref z) (.ref g5.objs.size) >>= _) _ _ _
  refine wpAny_bind ?_
  unfold Builtin.SmallTypes.ownedTupleHandOut
  have z6 : IsZipS (g5.push { cls := .type "tuple", data := .seq #[x, y] }) z TI TO .ellipsis := Heap.get?_push_of_some _ z5
  refine wpAny_bind (wpAny_setField_rec z6 (by simp) fun g7 z7 b7 => ?_)
  replace z7 : IsZipS g7 z TI TO (rawInt g5.objs.size) := z7
  refine wpAny_setField_rec z7 (by simp) fun g8 z8 b8 => ?_
  replace z8 : IsZipS g8 z TI TO (rawInt g5.objs.size) := z8
  have up : ∀ c o, c ≠ z → g5.get? c = some o → g8.get? c = some o := fun c o c1 e => b8.extBut _ _ c1 (b7.extBut _ _ c1 (Heap.get?_push_of_some _ e))
  have T8 : IsPair g8 g5.objs.size x y := b8.extBut _ _ (Nat.ne_of_gt hzlt) (b7.extBut _ _ (Nat.ne_of_gt hzlt) (Heap.get?_push_size _ rfl))
  have s8 : g8.objs.size = g5.objs.size + 1 := by rw [b8.1, b7.1, Heap.size_push]
  rw [hsz] at z8 T8 s8
  refine wpAny_pure ⟨_, rfl, ?_⟩
  show Q (.ref g5.objs.size) _
  rw [hsz]
  exact hQ g8 z8 (up _ _ D.TOz p5) (t1.at fun o e => up _ o D.i1z e) (t2.at fun o e => up _ o D.i2z e) T8 s8 fun c o c1 c2 c3 c4 e => up c o c1 (k5 c o c1 c2 c3 c4 e)
theorem next_end {z TI TO i1 i2 l1 l2 : Addr} {k1 k2 : Nat} {xs ys : Array Value} {a b : Value} {Q : Fin → Shared → Prop} (hh : A.handled = none) (D : ZipApart z TI TO i1 i2 l1 l2)
    (hz : IsZipS s.heap z TI TO .none) (hTI : IsPair s.heap TI (.ref i1) (.ref i2)) (hTO : IsPair s.heap TO a b)
    (h1 : s.heap.IsTupleIter i1 l1 k1) (h2 : s.heap.IsTupleIter i2 l2 k2) (hl1 : s.heap.IsTuple l1 xs) (hl2 : s.heap.IsTuple l2 ys) (hx : xs[k1]? = none) (hy : ys[k2]? = none)
    (hE : ∀ h' e, (∀ c o, c ≠ z → c ≠ TO → c ≠ i1 → c ≠ i2 → s.heap.get? c = some o → h'.get? c = some o) → (∃ o, h'.get? e = some o ∧ o.cls = .type "StopIteration") → E (.ref e) { s with heap := h' }) :
    wpAny (model prog w) A (Builtin.«zip.__next__» ⟨[.ref z], []⟩) Q E s := by
  show wpAny _ _ (field (.ref z) 2 >>= _) _ _ _
  refine wpAny_bind (wpAny_field hz rfl (x := .bool true) rfl ?_)
  show wpAny _ _ (field (.ref z) 3 >>= _) _ _ _
  refine wpAny_bind (wpAny_field hz rfl (x := .ref TI) rfl ?_)
  refine wpAny_bind (wpAny_seqItems hTI rfl ?_)
  show wpAny _ _ (Builtin.SmallTypes.ownedTupleIsFree (.ref z) >>= _) _ _ _
  refine wpAny_bind ?_
  unfold Builtin.SmallTypes.ownedTupleIsFree
  refine wpAny_bind (wpAny_field hz rfl (x := .none) rfl (wpAny_pure ?_))
  simp only [if_true]
  refine wpAny_bind (wpAny_rule ?_)
  refine wpAny_bind (wpAny_field hz rfl (x := .ref TO) rfl ?_)
  refine wpAny_bind (wpAny_setField_rec hz (by simp) fun g1 z1 b1 => ?_)
  replace z1 : IsZipS g1 z TI TO .ellipsis := z1
  refine wpAny_bind ?_
  simp only [List.zipIdx_cons, List.zipIdx_nil, List.forIn_cons, List.forIn_nil]
  refine wpAny_bind (wpAny_bind (wpAny_onRaise ?_))
  show wpAny _ _ (Builtin.SmallTypes.nextOrEnd (.ref i1)) _ _ _
  refine drawn_end hh (h1.extBut b1.extBut D.i1z) (hl1.extBut b1.extBut D.l1z) hx fun g2 b2 => ?_
  have z2 : IsZipS g2 z TI TO .ellipsis := b2 _ _ D.i1z.symm z1
  refine wpAny_bind (wpAny_setField_rec z2 (by simp) fun g3 z3 b3 => ?_)
  refine wpAny_bind ?_
  show wpAny _ _ (forIn ((([.ref i1, .ref i2] : List Value).drop 1).zipIdx 1) _ _ >>= _) _ _ _
  refine wpAny_bind ?_
  simp only [List.drop_succ_cons, List.drop_zero, List.zipIdx_cons, List.zipIdx_nil, List.forIn_cons, List.forIn_nil]
  refine wpAny_bind (wpAny_bind ?_)
  have t2 : g3.IsTupleIter i2 l2 k2 := ((h2.extBut b1.extBut D.i2z).at fun o e => b2 _ _ D.i12.symm e).extBut b3.extBut D.i2z
  have t3 : g3.IsTuple l2 ys := by
    obtain ⟨o, ho, r⟩ := hl2
    exact ⟨o, b3.extBut _ _ D.l2z (b2 _ _ D.l2i1 (b1.extBut _ _ D.l2z ho)), r⟩
  refine drawn_end hh t2 t3 hy fun g4 b4 => ?_
  refine wpAny_pure (wpAny_pure ?_)
  refine wpAny_bind (wpAny_rule ?_)
  show wpAny _ _ (newExc (.type "StopIteration") [] >>= _) _ _ _
  refine wpAny_bind ?_
  simp only [newExc, newTuple]
  refine wpAny_bind (wpAny_newObj_type ?_ (by size_fits))
  refine wpAny_bind (m := firstArgMember _ _) (wpAny_of_eq (a := Value.none) (by first | rfl | (simp only [firstArgMember]; rfl)) ?_)
  refine wpAny_newObj_type ?_ (by size_fits)
  simp only [raiseNew]
  refine wpAny_bind (wpAny_handled ?_)
  rw [hh]
  refine wpAny_bind (wpAny_pure (wpAny_throw ?_))
  refine hE _ _ (fun c o c1 c2 c3 c4 e => ?_) ⟨_, Heap.get?_push_size _ rfl, rfl⟩
  exact Heap.get?_push_of_some _ (Heap.get?_push_of_some _ (b4 _ _ c4 (b3.extBut _ _ c1 (b2 _ _ c3 (b1.extBut _ _ c1 e)))))
theorem pyNext_item {z TI TO i1 i2 l1 l2 : Addr} {k1 k2 : Nat} {xs ys : Array Value} {x y a b : Value} {Q : Option Value → Shared → Prop} (D : ZipApart z TI TO i1 i2 l1 l2)
    (hz : IsZipS s.heap z TI TO .none) (hTI : IsPair s.heap TI (.ref i1) (.ref i2)) (hTO : IsPair s.heap TO a b)
    (h1 : s.heap.IsTupleIter i1 l1 k1) (h2 : s.heap.IsTupleIter i2 l2 k2) (hl1 : s.heap.IsTuple l1 xs) (hl2 : s.heap.IsTuple l2 ys) (hx : xs[k1]? = some x) (hy : ys[k2]? = some y)
    (hQ : ∀ h', IsZipS h' z TI TO (rawInt s.heap.objs.size) → IsPair h' TO x y → h'.IsTupleIter i1 l1 (k1 + 1) → h'.IsTupleIter i2 l2 (k2 + 1) → IsPair h' s.heap.objs.size x y → h'.objs.size = s.heap.objs.size + 1 →
      (∀ c o, c ≠ z → c ≠ TO → c ≠ i1 → c ≠ i2 → s.heap.get? c = some o → h'.get? c = some o) → Q (some (.ref s.heap.objs.size)) { s with heap := h' }) :
    wpAny (model prog w) A (pyNext (.ref z)) Q E s := by
  have hT : s.TypeIs (.ref z) "zip" := ⟨_, hz, rfl⟩
  unfold pyNext
  exact wpAny_bind (wpAny_attempt (wpAny_callSpecial?_slot (name := Str.ofString "__next__") hT F.slot_zip_next
    (wpAny_call_entry F.slot_zip_next hT F.entry_zip_next
      (next_item D hz hTI hTO h1 h2 hl1 hl2 hx hy fun h' a1 a2 a3 a4 a5 a6 a7 => wpAny_pure (hQ h' a1 a2 a3 a4 a5 a6 a7)) (F.args_zip_next_1 _))))
theorem pyNext_end {z TI TO i1 i2 l1 l2 : Addr} {k1 k2 : Nat} {xs ys : Array Value} {a b : Value} {Q : Option Value → Shared → Prop} (hh : A.in1.handled = none) (D : ZipApart z TI TO i1 i2 l1 l2)
    (hz : IsZipS s.heap z TI TO .none) (hTI : IsPair s.heap TI (.ref i1) (.ref i2)) (hTO : IsPair s.heap TO a b)
    (h1 : s.heap.IsTupleIter i1 l1 k1) (h2 : s.heap.IsTupleIter i2 l2 k2) (hl1 : s.heap.IsTuple l1 xs) (hl2 : s.heap.IsTuple l2 ys) (hx : xs[k1]? = none) (hy : ys[k2]? = none)
    (hQ : ∀ h', (∀ c o, c ≠ z → c ≠ TO → c ≠ i1 → c ≠ i2 → s.heap.get? c = some o → h'.get? c = some o) → Q none { s with heap := h' }) : wpAny (model prog w) A (pyNext (.ref z)) Q E s := by
  have hT : s.TypeIs (.ref z) "zip" := ⟨_, hz, rfl⟩
  unfold pyNext
  refine wpAny_bind (wpAny_attempt (wpAny_callSpecial?_slot (name := Str.ofString "__next__") hT F.slot_zip_next
    (wpAny_call_entry F.slot_zip_next hT F.entry_zip_next (next_end hh D hz hTI hTO h1 h2 hl1 hl2 hx hy fun h' e hk he => ?_) (F.args_zip_next_1 _))))
  obtain ⟨o, ho, hc⟩ := he
  refine wpAny_bind (wpAny_isInstance (T := "StopIteration") (b := true) ⟨o, ho, hc⟩ isSubtype_stop ?_)
  exact wpAny_pure (hQ _ hk)
theorem owned_go {elts : List Expr} {x1} {pos : Pos} {z TI TO T : Addr} {Q : Unit → Shared → Prop} (hz : IsZipS s.heap z TI TO (rawInt T))
    (hQ : ∀ h', IsZipS h' z TI TO .none → Heap.SameBut z s.heap h' → Q () { s with heap := h' }) :
    wpAny (model prog w) A (letOwnedTupleGo (.Tuple elts x1 pos) (.ref z) (.ref T)) Q E s := by
  unfold letOwnedTupleGo
  refine wpAny_bind (wpAny_load hz ?_)
  show wpAny _ _ (if (["enumerate", "zip", "dict_itemiterator", "dict_reverseitemiterator", "odict_iterator", "itertools.zip_longest", "itertools.pairwise"].contains "zip" &&
      (#[rawInt T, .bool false, .bool true, .ref TI, .ref TO] : Array Value)[0]? == some (rawInt T)) = true then _ else _) Q E s
  rw [if_pos (by simp)]
  refine wpAny_bind (wpAny_rule ?_)
  show wpAny _ _ (setField (.ref z) 0 .none) Q E s
  exact wpAny_setField_rec hz (by simp) fun h' hz' hs' => hQ h' hz' hs'
theorem pyIter_self {z TI TO : Addr} {f0 : Value} {Q : Value → Shared → Prop} (hz : IsZipS s.heap z TI TO f0) (h : Q (.ref z) s) : wpAny (model prog w) A (pyIter (.ref z)) Q E s := by
  have hT : s.TypeIs (.ref z) "zip" := ⟨_, hz, rfl⟩
  refine wpAny_pyIter_slot hT F.slot_zip_iter (wpAny_call_entry F.slot_zip_iter hT F.entry_zip_iter ?_ (F.args_zip_iter_1 _))
  show wpAny _ _ (ret (.ref z)) _ _ s
  exact wpAny_pure ⟨_, rfl, "zip", _, hT, F.slot_zip_next.lookup, h⟩
end
/-! ### the call -/
theorem typeCall (a b : Value) : checkTypeCall "zip" ⟨[a, b], [(Str.ofString "strict", .bool true)]⟩ = pure () := by kernel_rfl
theorem newCall (a b : Value) : checkBuiltinCall "zip.__new__" ⟨[.type "zip", a, b], [(Str.ofString "strict", .bool true)]⟩ = pure () := by kernel_rfl
theorem initArgs (obj a b : Value) : argsOk "object.__init__" ⟨[obj, a, b], [(Str.ofString "strict", .bool true)]⟩ := by unfold argsOk; kernel_rfl
abbrev zsH5 (h : Heap) (l1 l2 : Addr) : Heap := (zipTH4 h l1 l2).push { cls := .type "zip", data := .fields #[.none, .bool false, .bool true, .ref (zipTH2 h l1 l2).objs.size, .ref (zipTH3 h l1 l2).objs.size] }
theorem meets_new (l1 l2 : Addr) (xs ys : Array Value) :
    Meets (Builtin.«zip.__new__» ⟨[.type "zip", .ref l1, .ref l2], [(Str.ofString "strict", .bool true)]⟩) (fun _ R s => s.heap.IsTuple l1 xs ∧ s.heap.IsTuple l2 ys ∧
      R (.ok (.ret (.ref (zipTH4 s.heap l1 l2).objs.size))) { s with heap := zsH5 s.heap l1 l2 }) :=
  .of_wp fun prog w A R s h => by
    obtain ⟨hp, g, d, tk, os⟩ := s; obtain ⟨hl1, hl2, h⟩ := h
    have hsub := sub_zip
    have e1 : (Str.ofString "strict" == ("strict" : Str)) = true := by decide +kernel
    have e2 : (Str.ofString "strict" != ("strict" : Str)) = false := by decide +kernel
    have hL1 : Heap.IsTuple (Shared.heap ⟨hp, g, d, tk, os⟩) l1 xs := hl1
    have hL2 : Heap.IsTuple (Shared.heap ⟨hp.push { cls := .type "tuple_iterator", data := .fields #[.ref l1, .int 0 0] }, g, d, tk, os⟩) l2 ys := Heap.IsTuple.push hl2 _
    wp_walk using wpAny_pyIter_tuple hL1, wpAny_pyIter_tuple hL2
    exact ⟨_, rfl, h⟩
end ZS
namespace ZS
open PySem PySem.Spec PyProof.Rows L2 RZ
section
variable {prog : Program} {w : World} {A : Around} {E : Value → Shared → Prop} {s : Shared}
theorem call_new {l1 l2 : Addr} {xs ys : Array Value} {Q : Value → Shared → Prop} (hl1 : s.heap.IsTuple l1 xs) (hl2 : s.heap.IsTuple l2 ys)
    (h : ∀ h', IsZipS h' (s.heap.objs.size + 4) (s.heap.objs.size + 2) (s.heap.objs.size + 3) .none → IsPair h' (s.heap.objs.size + 2) (.ref s.heap.objs.size) (.ref (s.heap.objs.size + 1)) →
      IsPair h' (s.heap.objs.size + 3) .none .none → h'.IsTupleIter s.heap.objs.size l1 0 → h'.IsTupleIter (s.heap.objs.size + 1) l2 0 → h'.objs.size = s.heap.objs.size + 5 →
      (∀ c o, s.heap.get? c = some o → h'.get? c = some o) → Q (.ref (s.heap.objs.size + 4)) { s with heap := h' }) :
    wpAny (model prog w) A (call (.type "zip") [.ref l1, .ref l2] [(Str.ofString "strict", .bool true)]) Q E s := by
  refine callType_newKw F.called_zip (by decide) (typeCall _ _) (newCall _ _) (fun obj => initArgs obj _ _) F.entry_zip_new
    (meets_new l1 l2 xs ys) ⟨hl1, hl2, ?_⟩
  have z1 : (zipTH1 s.heap l1).objs.size = s.heap.objs.size + 1 := Heap.size_push ..
  have z2 : (zipTH2 s.heap l1 l2).objs.size = s.heap.objs.size + 2 := by rw [Heap.size_push, z1]
  have z3 : (zipTH3 s.heap l1 l2).objs.size = s.heap.objs.size + 3 := by rw [Heap.size_push, z2]
  have z4 : (zipTH4 s.heap l1 l2).objs.size = s.heap.objs.size + 4 := by rw [Heap.size_push, z3]
  have z5 : (zsH5 s.heap l1 l2).objs.size = s.heap.objs.size + 5 := by rw [Heap.size_push, z4]
  have g5 : (zsH5 s.heap l1 l2).get? (zipTH4 s.heap l1 l2).objs.size = some _ := Heap.get?_push_size _ rfl
  have g4 : (zsH5 s.heap l1 l2).get? (zipTH3 s.heap l1 l2).objs.size = some _ := Heap.get?_push_of_some _ (Heap.get?_push_size _ rfl)
  have g3 : (zsH5 s.heap l1 l2).get? (zipTH2 s.heap l1 l2).objs.size = some _ := Heap.get?_push_of_some _ (Heap.get?_push_of_some _ (Heap.get?_push_size _ rfl))
  have g2 : (zsH5 s.heap l1 l2).get? (zipTH1 s.heap l1).objs.size = some _ := Heap.get?_push_of_some _ (Heap.get?_push_of_some _ (Heap.get?_push_of_some _ (Heap.get?_push_size _ rfl)))
  have g1 : (zsH5 s.heap l1 l2).get? s.heap.objs.size = some _ := Heap.get?_push_of_some _ (Heap.get?_push_of_some _ (Heap.get?_push_of_some _ (Heap.get?_push_of_some _ (Heap.get?_push_size _ rfl))))
  show _ ∧ _
  rw [z2, z3, z4] at g5
  rw [z1, z2] at g3
  rw [z3] at g4
  rw [z1] at g2
  rw [z4]
  exact ⟨⟨_, g5, rfl⟩, h _ g5 g3 g4 ⟨_, g1, rfl, rfl⟩ ⟨_, g2, rfl, rfl⟩ z5 fun c o x =>
    Heap.get?_push_of_some _ (Heap.get?_push_of_some _ (Heap.get?_push_of_some _ (Heap.get?_push_of_some _ (Heap.get?_push_of_some _ x))))⟩
end
/-- two tuples side by side, to the end of both -/
def ItzS (K : PySem.W.Frag) (a b : Addr) : It :=
  ⟨(ItzT K a b).go, (ItzT K a b).yld, fun i H => ∃ xs ys : List V, SqT K H a xs ∧ SqT K H b ys ∧ xs.length ≤ i ∧ ys.length ≤ i⟩
theorem turnS {P : Program} {w : World} {K : PySem.W.Frag} {elts : List Expr} {kk : Nat} {tpos : Pos} {a b z TI TO i1 i2 : Addr} (D : ZipApart z TI TO i1 i2 a b) :
    Turn P w K (.Tuple elts kk tpos) (ItzS K a b) [z, TI, TO, i1, i2] z (fun i h => IsZipS h z TI TO .none ∧ IsPair h TI (.ref i1) (.ref i2) ∧ (∃ x y, IsPair h TO x y) ∧ h.IsTupleIter i1 a i ∧ h.IsTupleIter i2 b i) where
  mem := by simp
  obj := fun i h st c hc => by
    obtain ⟨hz, hTI, ⟨x, y, hTO⟩, ⟨o1, e1, _, d1⟩, ⟨o2, e2, _, d2⟩⟩ := st
    have e' : c = z ∨ c = TI ∨ c = TO ∨ c = i1 ∨ c = i2 := by simpa using hc
    rcases e' with q | q | q | q | q
    · rw [q]; exact ⟨_, hz, fun v q => nomatch q⟩
    · rw [q]; exact ⟨_, hTI, fun v q => nomatch q⟩
    · rw [q]; exact ⟨_, hTO, fun v q => nomatch q⟩
    · rw [q]; exact ⟨o1, e1, fun v q => by rw [d1] at q; cases q⟩
    · rw [q]; exact ⟨o2, e2, fun v q => by rw [d2] at q; cases q⟩
  keep := fun i h h' st k => by
    obtain ⟨hz, hTI, ⟨x, y, hTO⟩, h1, h2⟩ := st
    exact ⟨k z (by simp) _ hz, k TI (by simp) _ hTI, ⟨x, y, k TO (by simp) _ hTO⟩, h1.at fun o q => k i1 (by simp) o q, h2.at fun o q => k i2 (by simp) o q⟩
  item := by
    intro X hP hw hK hc i pins s σ H E I hf st hg
    subst hP hw hK
    obtain ⟨hz, hTI, ⟨x0, y0, hTO⟩, h1, h2⟩ := st
    obtain ⟨xs, ys, x, y, hqx, hqy, hx, hy⟩ := hg
    obtain ⟨its, rv, p, _⟩ := I.tuple hqx
    obtain ⟨its2, rv2, p2, _⟩ := I.tuple hqy
    obtain ⟨u, hu, ru⟩ := rv.get hx
    obtain ⟨u2, hu2, ru2⟩ := rv2.get hy
    have hzl : z < s.heap.objs.size := Heap.lt_size hz
    refine pyNext_item D hz hTI hTO h1 h2 p p2 (x := u) (y := u2) (by simpa using hu) (by simpa using hu2) fun h' z' TO' h1' h2' hT hsz hk => ?_
    refine ⟨_, rfl, owned_go (s := { s with heap := h' }) z' fun h'' z'' sb => ?_⟩
    have hT2 : h''.get? s.heap.objs.size = some { cls := .type "tuple", data := .seq #[u, u2] } := (sb.2 _ (Nat.ne_of_gt hzl)).trans hT
    have new : ObjOk X.prog X.w (upd H s.heap.objs.size (.tup [x, y])) h'' s.heap.objs.size (.tup [x, y]) :=
      ⟨by show 2 ≤ sizeLine; decide, [u, u2], .cons ru (.cons ru2 .nil), ⟨_, hT2, rfl, _, rfl⟩⟩
    have I1 : Inv X pins σ (upd H s.heap.objs.size (.tup [x, y])) { s with heap := h'' } :=
      I.turnedNew (t' := s.toks) (ch := [z, TI, TO, i1, i2]) (fun c o hb q => (sb.2 c (fun q' => hb (by simp [q']))).trans (hk c o (fun q' => hb (by simp [q'])) (fun q' => hb (by simp [q'])) (fun q' => hb (by simp [q'])) (fun q' => hb (by simp [q'])) q)) hf (Nat.le_refl _) new
    refine ⟨.ref s.heap.objs.size, _, I1, rfl, ⟨_, x, y, rfl, I.hok.fresh (Nat.le_refl _), rfl, fun l hl => by rw [I.tuple_inj hl hqx]; exact hx, fun l hl => by rw [I.tuple_inj hl hqy]; exact hy⟩, ⟨z'', ?_, ⟨u, u2, ?_⟩, ?_, ?_⟩, fun c hcm => ?_⟩
    · exact (sb.2 _ D.TIz).trans (hk _ _ D.TIz D.TITO D.TIi1 D.TIi2 hTI)
    · exact (sb.2 _ D.TOz).trans TO'
    · exact h1'.at fun o q => (sb.2 _ D.i1z).trans q
    · exact h2'.at fun o q => (sb.2 _ D.i2z).trans q
    · have hlt : c < s.heap.objs.size := by
        have e' : c = z ∨ c = TI ∨ c = TO ∨ c = i1 ∨ c = i2 := by simpa using hcm
        rcases e' with q | q | q | q | q
        · rw [q]; exact hzl
        · rw [q]; exact Heap.lt_size hTI
        · rw [q]; exact Heap.lt_size hTO
        · rw [q]; obtain ⟨_, e1, _⟩ := h1; exact Heap.lt_size e1
        · rw [q]; obtain ⟨_, e2, _⟩ := h2; exact Heap.lt_size e2
      rw [upd_ne (Nat.ne_of_lt hlt)]
      exact (hf c hcm).1
  done := by
    intro X hP hw hK hc i pins s σ H E I hf st hg
    subst hP hw hK
    obtain ⟨hz, hTI, ⟨x0, y0, hTO⟩, h1, h2⟩ := st
    obtain ⟨xs, ys, hqx, hqy, g1, g2⟩ := hg
    obtain ⟨its, rv, p, _⟩ := I.tuple hqx
    obtain ⟨its2, rv2, p2, _⟩ := I.tuple hqy
    have l1 := rv.length
    have l2 := rv2.length
    exact pyNext_end (I.ok.hd hc) D hz hTI hTO h1 h2 p p2 (by simp; omega) (by simp; omega) fun h' hk => ⟨rfl, I.turnedL (t' := s.toks) (ch := [z, TI, TO, i1, i2]) (fun c o hb q =>
      hk c o (fun q' => hb (by simp [q'])) (fun q' => hb (by simp [q'])) (fun q' => hb (by simp [q'])) (fun q' => hb (by simp [q'])) q) hf⟩
  self := fun A i s Q E st h => pyIter_self st.1 h
def iZipS (K : PySem.W.Frag) (ta : TA) : TI := fun σ H R => ta σ H fun vs H1 => ∃ a b xs ys, vs = [.ref a, .ref b] ∧ SqT K H1 a xs ∧ SqT K H1 b ys ∧ R (ItzS K a b) H1
theorem keeps_zip {X : Cx} (h : Heap) (_ : True) : ∃ k, (k = Keeper.frame ∨ k = Keeper.machine ∨ k = Keeper.boundFrame) ∧ PySem.W.Looks (model X.prog X.w) h (keeperOf (.type "zip")) k :=
  ⟨.machine, .inr (.inl rfl), PySem.W.Looks.now⟩
theorem pi_zipS {X : Cx} {e e2 : Expr} {ta : TA} {p pos tpos p2 p3 : Pos} {elts : List Expr} {kk j : Nat} (hg : Gl X "zip") (hm : X.mg "zip" = none) (ha : PA X [e, e2] ta)
    (hs : starEach [e, e2] X.env = (false, eval e X.env) :: starEach [e2] X.env := by rfl) (hpl : (backTo pos (starEach [e2] X.env)).any (·.1) = false := by rfl) :
    PI X (.Tuple elts kk tpos) (.Call (.Name "zip" p) [e, e2] [⟨some "strict", .Constant (.bool true) j p2, p3⟩] pos) (iZipS X.K ta) := by
  refine ⟨fun pins s σ H R I h => ?_⟩
  refine wpAny_Call_Name_kw (ld_blt I hg hm PyProof.Rows.boot_zip ?_)
  refine PySem.W.callWith_of (P := fun _ => True) (by rw [hs]; show ((false || (backTo pos (starEach [e2] X.env)).any (·.1)) || false) = false; rw [hpl]; rfl) (keeps_zip (X := X)) (PyProof.Rows.evalArgs_kw2 rfl ?_ hs)
  refine thn (ha.run pos pins s σ H _ I h) fun us s1 ⟨vs, H1, I1, r1, a, b, xs, ys, ex, hqx, hqy, q⟩ => ?_
  subst ex
  have hc : PE X (.Constant (.bool true) j p2) (tC (.bl true)) := pe_bl
  refine PyProof.Rows.kwAll_cons (thn (hc.run pins s1 σ H1 (fun v H2 => v = .bl true ∧ H2 = H1) I1 ⟨rfl, rfl⟩) fun u s2 ⟨w, H2, I2, r2, e1, e2⟩ => ?_)
  subst e1 e2
  cases r2
  refine PyProof.Rows.kwAll_nil ⟨trivial, ?_⟩
  cases r1 with
  | cons r rr =>
    cases rr with
    | cons r' rr =>
      cases rr
      cases r
      cases r'
      have fresh5 : ∀ c, c ∈ [s2.heap.objs.size + 4, s2.heap.objs.size + 2, s2.heap.objs.size + 3, s2.heap.objs.size, s2.heap.objs.size + 1] → FpOk X pins H2 c := fun c hcm => by
        have e' : c = s2.heap.objs.size + 4 ∨ c = s2.heap.objs.size + 2 ∨ c = s2.heap.objs.size + 3 ∨ c = s2.heap.objs.size ∨ c = s2.heap.objs.size + 1 := by simpa using hcm
        have hle : s2.heap.objs.size ≤ c := by omega
        exact I2.fpOk hle (I2.hok.fresh hle)
      obtain ⟨its, rv, p1, _⟩ := I2.tuple hqx
      obtain ⟨its2, rv2, p2, _⟩ := I2.tuple hqy
      obtain ⟨o1, ho1, _⟩ := id p1
      obtain ⟨o2, ho2, _⟩ := id p2
      refine call_new (show s2.heap.IsTuple a its.toArray from p1) (show s2.heap.IsTuple b its2.toArray from p2) fun h' hz hTI hTO h1 h2 hsz hk => pyIter_self hz ?_
      have I3 : Inv X pins σ H2 { s2 with heap := h' } := I2.kept (t' := s2.toks) hk
      exact ⟨s2.heap.objs.size + 4, [s2.heap.objs.size + 4, s2.heap.objs.size + 2, s2.heap.objs.size + 3, s2.heap.objs.size, s2.heap.objs.size + 1], _, _, H2, rfl, I3, turnS (PySem.W.ktu_apart s2.heap.objs.size a b (Heap.lt_size ho1) (Heap.lt_size ho2)), ⟨hz, hTI, ⟨_, _, hTO⟩, h1, h2⟩, fresh5, q⟩
end ZS
end
section
set_option Elab.async false
set_option linter.all false
set_option maxHeartbeats 1000000
namespace Pur
open PySem PySem.Spec L2
section
variable {K : Fg} {G : Addr → Prop} {H0 H : Hp} {mu0 mu : List Addr} {s s' : Sg} {σ σ' : St} {v : V}
/-- the slots are other ones, no list is newly one's own -/
theorem Rel.re (R : Rel K G H0 mu0 mu s σ H) {env2 : List EV} {σ2 : St} (hl : env2.length = σ2.length)
    (sub : ∀ (i : Nat) (xs : List D) (a : Addr), OwnAt env2 i xs → σ2[i]? = some (some (V.ref a)) → ∃ ys, OwnAt s.env i ys ∧ σ[i]? = some (some (V.ref a)))
    (sl : Tm (hid G s.env σ H) (hid G env2 σ2 H) → ∀ (i : Nat) (e : EV), env2[i]? = some e → ∃ o : Option V, σ2[i]? = some o ∧ EvR K (hid G env2 σ2 H) mu H o e) :
    Rel K G H0 mu0 mu { s with env := env2 } σ2 H ∧ Tm (hid G s.env σ H) (hid G env2 σ2 H) := by
  have su : ∀ b, ownA env2 σ2 b → ownA s.env σ b := fun b ⟨i, xs, h, z⟩ => let ⟨ys, h1, h2⟩ := sub i xs b h z; ⟨i, ys, h1, h2⟩
  have t : Tm (hid G s.env σ H) (hid G env2 σ2 H) := Tm.msk fun b z => z.elim .inl fun q => .inr (su b q)
  refine ⟨⟨hl, sl t, fun i j xs ys a h1 h2 z1 z2 => ?_, R.stl, fun n kvs a q1 q2 => ?_, R.nd, fun b z => ⟨(R.dom b z).1, fun q => (R.dom b z).2.1 (su b q), (R.dom b z).2.2⟩, R.ext, fun b z => R.new b (su b z), R.pre⟩, t⟩
  · obtain ⟨xs', g1, g2⟩ := sub i xs a h1 z1
    obtain ⟨ys', g3, g4⟩ := sub j ys a h2 z2
    exact R.inj i j xs' ys' a g1 g3 g2 g4
  · obtain ⟨ws, h1, h2⟩ := R.sto n kvs a q1 q2
    exact ⟨ws, h1, KvR.tm t h2⟩
/-- at this heap the walk gives these things -/
structure Wlk (K : Fg) (J : It) (ds : List D) (M H : Hp) : Prop where
  go : ∀ (i : Nat) (d : D), ds[i]? = some d → J.go i H ∧ ∀ x H', J.yld i H x H' → RO K M H (.dat d) x H'
  stop : J.stop ds.length H
theorem wlk_list {M : Hp} {a : Addr} {vs : List V} {ds : List D} (h : SqL K H a vs) (da : DpAll K M vs ds) : Wlk K (Itl K a) ds M H := by
  refine ⟨fun i d e => ?_, ⟨vs, h, by rw [daLen da]; exact Nat.le_refl _⟩⟩
  obtain ⟨v, e1, e2⟩ := daGet da e
  refine ⟨⟨vs, v, h, e1⟩, fun x H' y => ?_⟩
  obtain ⟨rfl, y⟩ := y
  have := y vs h
  rw [e1] at this; cases this
  exact .old e2
theorem wlk_tup {M : Hp} {a : Addr} {vs : List V} {ds : List D} (h : SqT K H a vs) (da : DpAll K M vs ds) : Wlk K (Itt K a) ds M H := by
  refine ⟨fun i d e => ?_, ⟨vs, h, by rw [daLen da]; exact Nat.le_refl _⟩⟩
  obtain ⟨v, e1, e2⟩ := daGet da e
  refine ⟨⟨vs, v, h, e1⟩, fun x H' y => ?_⟩
  obtain ⟨rfl, y⟩ := y
  have := y vs h
  rw [e1] at this; cases this
  exact .old e2
theorem wlk_str {M : Hp} {z : Str} : Wlk K (Its z) (z.cps.toList.map fun c => PyData.str ⟨#[c]⟩) M H := by
  refine ⟨fun i d e => ?_, ?_⟩
  · rw [List.getElem?_map] at e
    obtain ⟨c, e1, rfl⟩ := Option.map_eq_some_iff.mp e
    rw [Array.getElem?_toList] at e1
    refine ⟨?_, fun x H' y => ?_⟩
    · show i < z.cps.size
      exact (Array.getElem?_eq_some_iff.mp e1).1
    · obtain ⟨rfl, c', h1, rfl⟩ := y
      rw [e1] at h1; cases h1
      exact .old (.str _)
  · show z.cps.size ≤ _
    rw [List.length_map, Array.length_toList]
    exact Nat.le_refl _
theorem upTo_get : ∀ (n : Nat) (lo : Int) (i : Nat) (d : D), (upTo lo n)[i]? = some d → i < n ∧ d = .int (lo + i)
  | 0, _, _, _, e => by simp [upTo] at e
  | n + 1, lo, 0, d, e => by simp [upTo] at e; subst e; exact ⟨Nat.succ_pos _, by simp⟩
  | n + 1, lo, i + 1, d, e => by
    simp only [upTo, List.getElem?_cons_succ] at e
    obtain ⟨h1, h2⟩ := upTo_get n (lo + 1) i d e
    exact ⟨Nat.succ_lt_succ h1, by rw [h2]; congr 1; omega⟩
theorem upTo_len : ∀ (n : Nat) (lo : Int), (upTo lo n).length = n
  | 0, _ => rfl
  | n + 1, lo => by simp [upTo, upTo_len n]
theorem downTo_get : ∀ (n : Nat) (hi : Int) (i : Nat) (d : D), (downTo hi n)[i]? = some d → i < n ∧ d = .int (hi + i * (-1))
  | 0, _, _, _, e => by simp [downTo] at e
  | n + 1, hi, 0, d, e => by simp [downTo] at e; subst e; exact ⟨Nat.succ_pos _, by simp⟩
  | n + 1, hi, i + 1, d, e => by
    simp only [downTo, List.getElem?_cons_succ] at e
    obtain ⟨h1, h2⟩ := downTo_get n (hi - 1) i d e
    exact ⟨Nat.succ_lt_succ h1, by rw [h2]; congr 1; omega⟩
theorem downTo_len : ∀ (n : Nat) (hi : Int), (downTo hi n).length = n
  | 0, _ => rfl
  | n + 1, hi => by simp [downTo, downTo_len n]
theorem wlk_range {M : Hp} {lo : Int} {n : Nat} : Wlk K (Itr lo n) (upTo lo n) M H := by
  refine ⟨fun i d e => ?_, by show n ≤ _; rw [upTo_len]; exact Nat.le_refl _⟩
  obtain ⟨h1, rfl⟩ := upTo_get n lo i d e
  refine ⟨h1, fun x H' y => ?_⟩
  obtain ⟨rfl, rfl⟩ := y
  exact .old (.int _)
theorem wlk_down {M : Hp} {hi : Int} {n : Nat} : Wlk K (Itc hi (-1) n) (downTo hi n) M H := by
  refine ⟨fun i d e => ?_, by show n ≤ _; rw [downTo_len]; exact Nat.le_refl _⟩
  obtain ⟨h1, rfl⟩ := downTo_get n hi i d e
  refine ⟨h1, fun x H' y => ?_⟩
  obtain ⟨rfl, rfl⟩ := y
  exact .old (.int _)
theorem enumD_get : ∀ (ds : List D) (k : Int) (i : Nat) (e : D), (enumD k ds)[i]? = some e → ∃ d, ds[i]? = some d ∧ e = .tuple [.int (k + i), d]
  | [], _, _, _, h => by simp [enumD] at h
  | d :: ds, k, 0, e, h => by simp [enumD] at h; subst h; exact ⟨d, rfl, by simp⟩
  | d :: ds, k, i + 1, e, h => by
    simp only [enumD, List.getElem?_cons_succ] at h
    obtain ⟨d', h1, h2⟩ := enumD_get ds (k + 1) i e h
    exact ⟨d', by simpa using h1, by rw [h2]; congr 3; omega⟩
theorem enumD_len : ∀ (ds : List D) (k : Int), (enumD k ds).length = ds.length
  | [], _ => rfl
  | d :: ds, k => by simp [enumD, enumD_len ds]
theorem wlk_enum {M : Hp} {a : Addr} {vs : List V} {ds : List D} (h : SqL K H a vs) (da : DpAll K M vs ds) : Wlk K (Ite K a) (enumD 0 ds) M H := by
  refine ⟨fun i e he => ?_, ⟨vs, h, by rw [daLen da, enumD_len]; exact Nat.le_refl _⟩⟩
  obtain ⟨d, e0, rfl⟩ := enumD_get ds 0 i e he
  obtain ⟨v, e1, e2⟩ := daGet da e0
  refine ⟨⟨vs, v, h, e1⟩, fun x H' y => ?_⟩
  obtain ⟨T, w, rfl, hT, rfl, y⟩ := y
  have := y vs h
  rw [e1] at this; cases this
  rw [Int.zero_add]
  exact .tup hT (.cons (.int _) (.cons e2 .nil))
theorem zipD_get : ∀ (as bs : List D) (i : Nat) (e : D), (zipD as bs)[i]? = some e → ∃ a b, as[i]? = some a ∧ bs[i]? = some b ∧ e = .tuple [a, b]
  | [], _, _, _, h => by simp [zipD] at h
  | _ :: _, [], _, _, h => by simp [zipD] at h
  | a :: as, b :: bs, 0, e, h => by simp [zipD] at h; subst h; exact ⟨a, b, rfl, rfl, rfl⟩
  | a :: as, b :: bs, i + 1, e, h => by
    simp only [zipD, List.getElem?_cons_succ] at h
    obtain ⟨x, y, h1, h2, h3⟩ := zipD_get as bs i e h
    exact ⟨x, y, by simpa using h1, by simpa using h2, h3⟩
theorem zipD_len : ∀ (as bs : List D), (zipD as bs).length = min as.length bs.length
  | [], _ => by simp [zipD]
  | _ :: _, [] => by simp [zipD]
  | a :: as, b :: bs => by simp only [zipD, List.length_cons, zipD_len as bs]; omega
theorem wlk_zip {M : Hp} {a b : Addr} {vs ws : List V} {ds es : List D} (h : SqL K H a vs) (h2 : SqL K H b ws) (da : DpAll K M vs ds) (db : DpAll K M ws es) : Wlk K (Itz K a b) (zipD ds es) M H := by
  have l1 := daLen da
  have l2 := daLen db
  refine ⟨fun i e he => ?_, ⟨vs, ws, h, h2, by rw [zipD_len]; omega⟩⟩
  obtain ⟨x, y, e1, e2, rfl⟩ := zipD_get ds es i e he
  obtain ⟨v, f1, f2⟩ := daGet da e1
  obtain ⟨u, g1, g2⟩ := daGet db e2
  refine ⟨⟨vs, ws, v, u, h, h2, f1, g1⟩, fun x' H' y' => ?_⟩
  obtain ⟨T, p, q, rfl, hT, rfl, y1, y2⟩ := y'
  have z1 := y1 vs h
  have z2 := y2 ws h2
  rw [f1] at z1; cases z1
  rw [g1] at z2; cases z2
  exact .tup hT (.cons f2 (.cons g2 .nil))
theorem wlk_zipT {M : Hp} {a b : Addr} {vs ws : List V} {ds es : List D} (h : SqT K H a vs) (h2 : SqT K H b ws) (da : DpAll K M vs ds) (db : DpAll K M ws es) : Wlk K (RZ.ItzT K a b) (zipD ds es) M H := by
  have l1 := daLen da
  have l2 := daLen db
  refine ⟨fun i e he => ?_, ⟨vs, ws, h, h2, by rw [zipD_len]; omega⟩⟩
  obtain ⟨x, y, e1, e2, rfl⟩ := zipD_get ds es i e he
  obtain ⟨v, f1, f2⟩ := daGet da e1
  obtain ⟨u, g1, g2⟩ := daGet db e2
  refine ⟨⟨vs, ws, v, u, h, h2, f1, g1⟩, fun x' H' y' => ?_⟩
  obtain ⟨T, p, q, rfl, hT, rfl, y1, y2⟩ := y'
  have z1 := y1 vs h
  have z2 := y2 ws h2
  rw [f1] at z1; cases z1
  rw [g1] at z2; cases z2
  exact .tup hT (.cons f2 (.cons g2 .nil))
theorem wlk_zipS {M : Hp} {a b : Addr} {vs ws : List V} {ds es : List D} (hl : ds.length = es.length) (h : SqT K H a vs) (h2 : SqT K H b ws) (da : DpAll K M vs ds) (db : DpAll K M ws es) : Wlk K (ZS.ItzS K a b) (zipD ds es) M H := by
  have l1 := daLen da
  have l2 := daLen db
  refine ⟨fun i e he => ?_, ⟨vs, ws, h, h2, by rw [zipD_len]; omega, by rw [zipD_len]; omega⟩⟩
  obtain ⟨x, y, e1, e2, rfl⟩ := zipD_get ds es i e he
  obtain ⟨v, f1, f2⟩ := daGet da e1
  obtain ⟨u, g1, g2⟩ := daGet db e2
  refine ⟨⟨vs, ws, v, u, h, h2, f1, g1⟩, fun x' H' y' => ?_⟩
  obtain ⟨T, p, q, rfl, hT, rfl, y1, y2⟩ := y'
  have z1 := y1 vs h
  have z2 := y2 ws h2
  rw [f1] at z1; cases z1
  rw [g1] at z2; cases z2
  exact .tup hT (.cons f2 (.cons g2 .nil))
end
/-- a walk of these things, as long as what is seen stands, and the list that is walked -/
abbrev RvI (K : Fg) (G : Addr → Prop) (σ : St) : Rvt (List D × Option Nat) It := fun _ _ s H p J => (∀ i, p.2 = some i → ∃ xs, s.env[i]? = some (EV.own xs)) ∧ ∀ M' H', Tm (hid G s.env σ H) M' → Tm M' H' →
  (∀ (i : Nat) (a : Addr), (p.2 = some i ∨ ∃ xs, s.env[i]? = some (EV.lent xs)) → σ[i]? = some (some (V.ref a)) → H' a = H a) → Wlk K J p.1 M' H'
theorem bkI {K : Fg} {G : Addr → Prop} {σ : St} : Bk (RvI K G σ) := fun _ _ _ _ _ _ _ _ h => h
def tI (W : Xw) (K : Fg) (C : Cn) (c : CI) : TI := fun σ H R => ∃ G H0 mu0 mu s, Rel K G H0 mu0 mu s σ H ∧ Post W K G H0 mu0 σ (RvI K G σ) mu s H (evI C c s) R
theorem PI_imp {X : Cx} {tg e : Expr} {t t' : TI} (h : PI X tg e t) (q : ∀ σ H R, t' σ H R → t σ H R) : PI X tg e t' := ⟨fun pins s σ H R I z => h.run pins s σ H R I (q σ H R z)⟩
section
variable {X : Cx} {W : Xw} {C : Cn} {N : Nm}
theorem i_range (ok : XOk X W C N) {tg : Expr} {cs : CEs} {e : Expr} {es : List Expr} {p pos : Pos} (h : SndL X W C cs (e :: es)) (hn : es.length ≤ 2) (hg : glB N.sc "range" = true) (hm : X.mg "range" = none) : PI X tg (.Call (.Name "range" p) (e :: es) [] pos) (tI W X.K C (.range cs)) := by
  have g := glB_ok ok hg
  have hns := h.ns
  rw [List.all_cons, Bool.and_eq_true] at hns
  have hlen := h.len
  have core : ∀ (σ : L2.St) (H : Hp) (R : It → Hp → Prop), tI W X.K C (.range cs) σ H R → tDs W X.K C cs σ H (fun vs H1 => ∃ ds xs, ds.length = es.length + 1 ∧ DpAll X.K H1 vs ds ∧ rangeD ds = some xs ∧ ∀ J, (∀ M H', Wlk X.K J xs M H') → R J H1) := fun σ H R ⟨G, H0, mu0, mu, s, R0, h⟩ => by
    refine ⟨G, H0, mu0, mu, s, R0, ?_⟩
    rw [evI] at h
    refine (Post.bind (Rv := RvD X.K G σ) bkI h).imp fun vs H1 ⟨ds, mu1, s1, em, nx, rv, h⟩ => ?_
    cases e1 : rangeD ds with
    | none => rw [e1] at h; exact h.elim
    | some xs =>
      rw [e1] at h
      dsimp only [Option.bind_some] at h
      by_cases hl : xs.length ≤ lim
      case neg => rw [if_neg hl] at h; exact h.elim
      rw [if_pos hl] at h
      exact ⟨ds, xs, (evDs_len em).trans hlen, daT hid_le rv, e1, fun J hw => Post.pure (Rv := RvI X.K G σ) nx.rel h ⟨(fun i z => by cases z), fun M' H' _ _ _ => hw M' H'⟩⟩
  have okI_ok : ∀ {i : Int}, okI i = true → -(2 ^ 62) ≤ i ∧ i < 2 ^ 62 := fun h => of_decide_eq_true h
  match es, hn, h, hns, core with
  | [], _, h, hns, core =>
    refine PI_imp (pi_range1 g hm h.ds (star_cons hns.1)) fun σ H R z => ?_
    obtain ⟨G, H0, mu0, mu, s, R0, z⟩ := core _ _ _ z
    refine ⟨G, H0, mu0, mu, s, R0, z.imp fun vs H1 ⟨ds, xs, dl, dv, e1, q⟩ => ?_⟩
    unfold rangeD at e1
    split at e1
    · split at e1
      · rename_i j hj
        cases e1
        obtain ⟨b1, b2⟩ := okI_ok hj
        cases dv with
        | cons a b =>
          cases a
          cases b
          exact ⟨_, rfl, b1, b2, q _ fun _ _ => wlk_range⟩
      · cases e1
    · cases dl
    · cases dl
    · cases e1
  | [e2], _, h, hns, core =>
    have hns2 : noStar e2 = true := by simpa using hns.2
    refine PI_imp (pi_range2 g hm h.ds (by rw [star_cons hns.1, star_cons hns2]; rfl) (star_cons hns2)) fun σ H R z => ?_
    obtain ⟨G, H0, mu0, mu, s, R0, z⟩ := core _ _ _ z
    refine ⟨G, H0, mu0, mu, s, R0, z.imp fun vs H1 ⟨ds, xs, dl, dv, e1, q⟩ => ?_⟩
    unfold rangeD at e1
    split at e1
    · cases dl
    · split at e1
      · rename_i hj
        rw [Bool.and_eq_true] at hj
        cases e1
        obtain ⟨b1, b2⟩ := okI_ok hj.1
        obtain ⟨b3, b4⟩ := okI_ok hj.2
        cases dv with
        | cons a b =>
          cases a
          cases b with
          | cons a' b' =>
            cases a'
            cases b'
            exact ⟨_, _, rfl, ⟨b1, b2, b3, b4⟩, q _ fun _ _ => wlk_range⟩
      · cases e1
    · cases dl
    · cases e1
  | [e2, e3], _, h, hns, core =>
    have hns2 : noStar e2 = true ∧ noStar e3 = true := by simpa using hns.2
    refine PI_imp (pi_range3 g hm h.ds (star_cons hns.1) (by rw [star_cons hns2.1, star_cons hns2.2]; rfl)) fun σ H R z => ?_
    obtain ⟨G, H0, mu0, mu, s, R0, z⟩ := core _ _ _ z
    refine ⟨G, H0, mu0, mu, s, R0, z.imp fun vs H1 ⟨ds, xs, dl, dv, e1, q⟩ => ?_⟩
    unfold rangeD at e1
    split at e1
    · cases dl
    · cases dl
    · split at e1
      · rename_i hj
        rw [Bool.and_eq_true] at hj
        cases e1
        obtain ⟨b1, b2⟩ := okI_ok hj.1
        obtain ⟨b3, b4⟩ := okI_ok hj.2
        cases dv with
        | cons a b =>
          cases a
          cases b with
          | cons a' b' =>
            cases a'
            cases b' with
            | cons a'' b'' =>
              cases a''
              cases b''
              exact ⟨_, _, _, _, rfl, RgC.neg b1 b2 b3 b4, q _ fun _ _ => wlk_down⟩
      · cases e1
    · cases e1
/-! ### a walk of what an expression gives -/
theorem RDmask {K : Fg} {G : Addr → Prop} {H0 H : Hp} {mu0 mu : List Addr} {s : Sg} {σ : St} {r : RV} {v : V} {xs : List D} (R : Rel K G H0 mu0 mu s σ H) (w : RVw K G σ mu s H r v) (e : s.res r = some (.list xs)) :
    ∃ a vs, v = .ref a ∧ DpAll K (hid G s.env σ H) vs xs ∧ ∀ M' H', Tm (hid G s.env σ H) M' → Tm M' H' → (∀ (i : Nat) (b : Addr), (lends s r = some i ∨ ∃ ys, s.env[i]? = some (EV.lent ys)) → σ[i]? = some (some (V.ref b)) → H' b = H b) → SqL K H' a vs := by
  cases r with
  | loc n => cases e
  | dat d =>
    cases e
    have w : Dp K (hid G s.env σ H) v (.list xs) := w
    cases w with
    | lst ha da => exact ⟨_, _, rfl, da, fun M' H' t1 t2 _ => t2.sqL (t1.sqL ha)⟩
  | fresh ys =>
    cases e
    have w : Dp K (hid G s.env σ H) v (.list xs) := w
    cases w with
    | lst ha da => exact ⟨_, _, rfl, da, fun M' H' t1 t2 _ => t2.sqL (t1.sqL ha)⟩
  | slot i =>
    have w : σ[i]? = some (some v) := w
    unfold Sg.res at e
    simp only at e
    split at e
    · rename_i ys q
      cases e
      obtain ⟨o, e1, a, vs, e2, e3, e4⟩ := R.slots i _ q
      rw [w] at e1; cases e1; cases e2
      refine ⟨a, vs, rfl, e4, fun M' H' _ _ k => .of ((k i a (.inl ?_) w).trans e3)⟩
      unfold lends
      simp only [q]
    · rename_i ys q
      cases e
      obtain ⟨o, e1, a, vs, e2, e3, e4⟩ := R.slots i _ q
      rw [w] at e1; cases e1; cases e2
      exact ⟨a, vs, rfl, e4, fun M' H' _ _ k => .of ((k i a (.inr ⟨_, q⟩) w).trans e3)⟩
    · rename_i d q
      cases e
      obtain ⟨o, e1, w', e2, e3⟩ := R.slots i _ q
      rw [w] at e1; cases e1; cases e2
      cases e3 with
      | lst ha da => exact ⟨_, _, rfl, da, fun M' H' t1 t2 _ => t2.sqL (t1.sqL ha)⟩
    · cases e
theorem lends_own {s : Sg} {r : RV} {i : Nat} (h : lends s r = some i) : ∃ xs, s.env[i]? = some (EV.own xs) := by
  unfold lends at h
  split at h
  · split at h
    · rename_i xs q; cases h; exact ⟨xs, q⟩
    · cases h
  · cases h
theorem i_seq {tg e : Expr} {c : CE} (he : PE X e (tE W X.K C c)) : PI X tg e (tI W X.K C (.seq c)) := by
  refine ⟨fun pins s σ H R I ⟨G, H0, mu0, mu, s0, R0, h⟩ => ?_⟩
  rw [evI] at h
  cases em : ev C c s0 with
  | stuck => rw [em] at h; exact h.elim
  | exc ce fs s1 =>
    refine (pi_list he (tg := tg)).run pins s σ H R I ⟨G, H0, mu0, mu, s0, R0, ?_⟩
    rw [em] at h ⊢
    exact h
  | ok r s1 =>
    have h1 := Post.bind (Rv := RvE X.K G H0 mu0 σ) bkI h
    cases e1 : s1.res r with
    | none => rw [em] at h; simp only [O.bind, e1] at h; exact h.elim
    | some d =>
      cases d with
      | list xs =>
        refine (pi_list he (tg := tg)).run pins s σ H R I ⟨G, H0, mu0, mu, s0, R0, h1.imp fun v H1 ⟨r', mu1, s1', em', nx, rv, h⟩ => ?_⟩
        rw [em] at em'; cases em'
        simp only [e1, Option.bind_some, seqD] at h
        by_cases hl : xs.length ≤ lim
        case neg => rw [if_neg hl] at h; exact h.elim
        rw [if_pos hl] at h
        obtain ⟨a, vs, rfl, da, k⟩ := RDmask nx.rel rv.w e1
        refine ⟨a, rfl, ⟨vs, k _ _ Tm.refl hid_le fun _ _ _ _ => rfl⟩, Post.pure (Rv := RvI X.K G σ) nx.rel h ⟨fun i z => lends_own z, fun M' H' t1 t2 q => wlk_list (k M' H' t1 t2 q) (daT t1 da)⟩⟩
      | tuple xs =>
        refine (pi_tup he (tg := tg)).run pins s σ H R I ⟨G, H0, mu0, mu, s0, R0, h1.imp fun v H1 ⟨r', mu1, s1', em', nx, rv, h⟩ => ?_⟩
        rw [em] at em'; cases em'
        simp only [e1, Option.bind_some, seqD] at h
        by_cases hl : xs.length ≤ lim
        case neg => rw [if_neg hl] at h; exact h.elim
        rw [if_pos hl] at h
        obtain ⟨a, vs, rfl, ha, da, _⟩ := (rv.w.res nx.rel e1).tup
        refine ⟨a, rfl, ⟨vs, (hid_le (G := G)).sqT ha⟩, Post.pure (Rv := RvI X.K G σ) nx.rel h ⟨fun i z => lends_own z, fun M' H' t1 t2 q => wlk_tup (t2.sqT (t1.sqT ha)) (daT t1 da)⟩⟩
      | str z =>
        refine (pi_str he (tg := tg)).run pins s σ H R I ⟨G, H0, mu0, mu, s0, R0, h1.imp fun v H1 ⟨r', mu1, s1', em', nx, rv, h⟩ => ?_⟩
        rw [em] at em'; cases em'
        simp only [e1, Option.bind_some, seqD] at h
        by_cases hl : (z.cps.toList.map fun c => PyData.str ⟨#[c]⟩).length ≤ lim
        case neg => rw [if_neg hl] at h; exact h.elim
        rw [if_pos hl] at h
        refine ⟨z, (rv.w.res nx.rel e1).str, Post.pure (Rv := RvI X.K G σ) nx.rel h ⟨fun i z => lends_own z, fun M' H' t1 t2 q => wlk_str⟩⟩
      | none => rw [em] at h; simp only [O.bind, e1, Option.bind_some, seqD] at h; exact h.elim
      | bool _ => rw [em] at h; simp only [O.bind, e1, Option.bind_some, seqD] at h; exact h.elim
      | int _ => rw [em] at h; simp only [O.bind, e1, Option.bind_some, seqD] at h; exact h.elim
      | dict _ => rw [em] at h; simp only [O.bind, e1, Option.bind_some, seqD] at h; exact h.elim
end
/-! ### enumerate of a tuple, from any count -/
def IteT (K : Fg) (a : Addr) (k : Int) : It :=
  ⟨fun i H => ∃ (xs : List V) (x : V), SqT K H a xs ∧ xs[i]? = some x, fun i H v H' => ∃ T x, v = .ref T ∧ H T = none ∧ H' = upd H T (.tup [.int (k + (i : Nat)), x]) ∧ ∀ xs, SqT K H a xs → xs[i]? = some x, fun i H => ∃ xs : List V, SqT K H a xs ∧ xs.length = i⟩
theorem wlk_enumT {K : Fg} {M H : Hp} {a : Addr} {vs : List V} {ds : List D} {k : Int} (h : SqT K H a vs) (da : DpAll K M vs ds) : Wlk K (IteT K a k) (enumD k ds) M H := by
  refine ⟨fun i e he => ?_, ⟨vs, h, by rw [daLen da, enumD_len]⟩⟩
  obtain ⟨d, e0, rfl⟩ := enumD_get ds k i e he
  obtain ⟨v, e1, e2⟩ := daGet da e0
  refine ⟨⟨vs, v, h, e1⟩, fun x H' y => ?_⟩
  obtain ⟨T, w, rfl, hT, rfl, y⟩ := y
  have := y vs h
  rw [e1] at this; cases this
  exact .tup hT (.cons (.int _) (.cons e2 .nil))
theorem turn_enumT {P : Program} {w : World} {K : Fg} {elts : List Expr} {kk : Nat} {tpos : Pos} (a e it : Addr) (k : Int) :
    Turn P w K (.Tuple elts kk tpos) (IteT K a k) [e, it] e (fun i h => (∃ old, IsEnum h e it (k + ((i : Nat) : Int)) old) ∧ h.IsTupleIter it a i ∧ e ≠ it) where
  mem := by simp
  obj := fun i h st b hb => by
    obtain ⟨⟨old, he⟩, ⟨o, ho, hc, hd⟩, _⟩ := st
    have e' : b = e ∨ b = it := by simpa using hb
    rcases e' with z | z
    · rw [z]; exact ⟨_, he, fun v q => nomatch q⟩
    · rw [z]; exact ⟨o, ho, fun v q => by rw [hd] at q; cases q⟩
  keep := fun i h h' st q => let ⟨⟨old, he⟩, hi, hne⟩ := st; ⟨⟨old, q e (by simp) _ he⟩, hi.at fun o z => q it (by simp) o z, hne⟩
  item := by
    intro X hP hw hK hc i pins s σ H E I hf st hg
    subst hP hw hK
    obtain ⟨⟨old, he⟩, hit, hne⟩ := st
    obtain ⟨xs, x, hq, hx⟩ := hg
    obtain ⟨its, rv, p, hz⟩ := I.tuple hq
    obtain ⟨u, hu, ru⟩ := rv.get hx
    have hel : e < s.heap.objs.size := Heap.lt_size he
    have hil : it < s.heap.objs.size := by obtain ⟨_, q, _⟩ := hit; exact Heap.lt_size q
    have hat : e ≠ a := fun z => by
      obtain ⟨o, ho, hcl, _⟩ := p
      rw [← z, he] at ho
      cases ho
      injection hcl with hcl
      exact absurd hcl (by decide)
    have hita : a ≠ it := fun z => by
      obtain ⟨o, ho, hcl, _⟩ := p
      obtain ⟨o', ho', hcl', _⟩ := hit
      rw [z, ho'] at ho
      cases ho
      rw [hcl'] at hcl
      injection hcl with hcl
      exact absurd hcl (by decide)
    have hil2 : i < its.toArray.size := by
      have := (List.getElem?_eq_some_iff.mp hu).1
      simpa using this
    refine wpAny_pyNext_enum_itemC (Draws.tuple (A := X.A.in1) (I.ok.hd hc) it a hita its.toArray) he (i := i) ⟨hit, p⟩ hil2 hne (by simp [hne, hat]) fun x' h' tk hP ho hst hT hsz hk => ?_
    have hxu : x' = u := by
      rw [← Array.getElem?_toList] at hP
      exact Option.some.inj (hP.symm.trans hu)
    subst hxu
    refine ⟨_, rfl, wpAny_letOwnedTupleGo_enum (s := { s with heap := h', toks := tk + 1 }) ho fun h'' he' sb => ?_⟩
    have hT2 : h''.get? s.heap.objs.size = some { cls := .type "tuple", data := .seq #[.int (k + (i : Int)) tk, x'] } := (sb.2 _ (Nat.ne_of_gt hel)).trans hT
    have new : ObjOk X.prog X.w (upd H s.heap.objs.size (.tup [.int (k + (i : Nat)), x])) h'' s.heap.objs.size (.tup [.int (k + (i : Nat)), x]) :=
      ⟨by show 2 ≤ sizeLine; decide, [.int (k + (i : Int)) tk, x'], .cons ⟨_, rfl⟩ (.cons ru .nil), ⟨_, hT2, rfl, _, rfl⟩⟩
    have I1 : Inv X pins σ (upd H s.heap.objs.size (.tup [.int (k + (i : Nat)), x])) { s with heap := h'', toks := tk + 1 } :=
      I.turnedNew (ch := [e, it]) (fun b ob hb q => (sb.2 b (fun z => hb (by simp [z]))).trans (hk b ob (fun z => hb (by simp [z])) (fun z => hb (by simp [z])) q)) hf (Nat.le_refl _) new
    refine ⟨.ref s.heap.objs.size, _, I1, rfl, ⟨_, x, rfl, I.hok.fresh (Nat.le_refl _), rfl, fun ys hy => by rw [I.tuple_inj hy hq]; exact hx⟩, ⟨⟨x', ?_⟩, hst.1.at fun o q => (sb.2 it (Ne.symm hne)).trans q, hne⟩, fun b hb => ?_⟩
    · have e1 : k + ((i + 1 : Nat) : Int) = k + (i : Int) + 1 := by omega
      rw [e1]; exact he'
    · have hb' : b < s.heap.objs.size := by
        have e' : b = e ∨ b = it := by simpa using hb
        rcases e' with z | z
        · rw [z]; exact hel
        · rw [z]; exact hil
      rw [upd_ne (Nat.ne_of_lt hb')]
      exact (hf b hb).1
  done := by
    intro X hP hw hK hc i pins s σ H E I hf st hg
    subst hP hw hK
    obtain ⟨⟨old, he⟩, hit, hne⟩ := st
    obtain ⟨xs, hq, hx⟩ := hg
    obtain ⟨its, rv, p, hz⟩ := I.tuple hq
    obtain ⟨f0, f1, f2, f3, f4, f5⟩ := hf it (by simp)
    have hl := rv.length
    subst hx
    have hita : a ≠ it := fun z => by
      obtain ⟨o, ho, hcl, _⟩ := p
      obtain ⟨o', ho', hcl', _⟩ := hit
      rw [z, ho'] at ho
      cases ho
      rw [hcl'] at hcl
      injection hcl with hcl
      exact absurd hcl (by decide)
    have en : its.toArray.size = xs.length := by rw [List.size_toArray]; exact hl.symm
    refine wpAny_pyNext_enum_endD (Draws.tuple (A := X.A.in1) (I.ok.hd hc) it a hita its.toArray) (i := k + ((xs.length : Nat) : Int)) he (by rw [en]; exact ⟨hit, p⟩) fun h' eb => ⟨rfl, I.turned (t' := s.toks) (fun b o hb q => eb b o hb q) f0 f1 f3 f4 f5⟩
  self := fun A i s Q E st h => let ⟨⟨_, he⟩, _⟩ := st; wpAny_pyIter_enum he h
def IteL (K : Fg) (a : Addr) (k : Int) : It :=
  ⟨fun i H => ∃ (xs : List V) (x : V), SqL K H a xs ∧ xs[i]? = some x, fun i H v H' => ∃ T x, v = .ref T ∧ H T = none ∧ H' = upd H T (.tup [.int (k + (i : Nat)), x]) ∧ ∀ xs, SqL K H a xs → xs[i]? = some x, fun i H => ∃ xs : List V, SqL K H a xs ∧ xs.length = i⟩
theorem wlk_enumLk {K : Fg} {M H : Hp} {a : Addr} {vs : List V} {ds : List D} {k : Int} (h : SqL K H a vs) (da : DpAll K M vs ds) : Wlk K (IteL K a k) (enumD k ds) M H := by
  refine ⟨fun i e he => ?_, ⟨vs, h, by rw [daLen da, enumD_len]⟩⟩
  obtain ⟨d, e0, rfl⟩ := enumD_get ds k i e he
  obtain ⟨v, e1, e2⟩ := daGet da e0
  refine ⟨⟨vs, v, h, e1⟩, fun x H' y => ?_⟩
  obtain ⟨T, w, rfl, hT, rfl, y⟩ := y
  have := y vs h
  rw [e1] at this; cases this
  exact .tup hT (.cons (.int _) (.cons e2 .nil))
theorem turn_enumL {P : Program} {w : World} {K : Fg} {elts : List Expr} {kk : Nat} {tpos : Pos} (a e it : Addr) (k : Int) :
    Turn P w K (.Tuple elts kk tpos) (IteL K a k) [e, it] e (fun i h => (∃ old, IsEnum h e it (k + ((i : Nat) : Int)) old) ∧ h.IsListIter it a i ∧ e ≠ it) where
  mem := by simp
  obj := fun i h st b hb => by
    obtain ⟨⟨old, he⟩, ⟨o, ho, hc, hd⟩, _⟩ := st
    have e' : b = e ∨ b = it := by simpa using hb
    rcases e' with z | z
    · rw [z]; exact ⟨_, he, fun v q => nomatch q⟩
    · rw [z]; exact ⟨o, ho, fun v q => by rw [hd] at q; cases q⟩
  keep := fun i h h' st q => let ⟨⟨old, he⟩, hi, hne⟩ := st; ⟨⟨old, q e (by simp) _ he⟩, hi.at fun o z => q it (by simp) o z, hne⟩
  item := by
    intro X hP hw hK hc i pins s σ H E I hf st hg
    subst hP hw hK
    obtain ⟨⟨old, he⟩, hit, hne⟩ := st
    obtain ⟨xs, x, hq, hx⟩ := hg
    obtain ⟨its, rv, p, hz⟩ := I.list hq
    obtain ⟨u, hu, ru⟩ := rv.get hx
    have hel : e < s.heap.objs.size := Heap.lt_size he
    have hil : it < s.heap.objs.size := by obtain ⟨_, q, _⟩ := hit; exact Heap.lt_size q
    have hat : e ≠ a := fun z => by
      obtain ⟨o, ho, hcl, _⟩ := p.isList
      rw [← z, he] at ho
      cases ho
      injection hcl with hcl
      exact absurd hcl (by decide)
    have hita : a ≠ it := fun z => by
      obtain ⟨o, ho, hcl, _⟩ := p.isList
      obtain ⟨o', ho', hcl', _⟩ := hit
      rw [z, ho'] at ho
      cases ho
      rw [hcl'] at hcl
      injection hcl with hcl
      exact absurd hcl (by decide)
    have hil2 : i < its.toArray.size := by
      have := (List.getElem?_eq_some_iff.mp hu).1
      simpa using this
    refine wpAny_pyNext_enum_itemC (Draws.list (A := X.A.in1) (I.ok.hd hc) it a hita its.toArray) he (i := i) ⟨hit, p.isList⟩ hil2 hne (by simp [hne, hat]) fun x' h' tk hP ho hst hT hsz hk => ?_
    have hxu : x' = u := by
      rw [← Array.getElem?_toList] at hP
      exact Option.some.inj (hP.symm.trans hu)
    subst hxu
    refine ⟨_, rfl, wpAny_letOwnedTupleGo_enum (s := { s with heap := h', toks := tk + 1 }) ho fun h'' he' sb => ?_⟩
    have hT2 : h''.get? s.heap.objs.size = some { cls := .type "tuple", data := .seq #[.int (k + (i : Int)) tk, x'] } := (sb.2 _ (Nat.ne_of_gt hel)).trans hT
    have new : ObjOk X.prog X.w (upd H s.heap.objs.size (.tup [.int (k + (i : Nat)), x])) h'' s.heap.objs.size (.tup [.int (k + (i : Nat)), x]) :=
      ⟨by show 2 ≤ sizeLine; decide, [.int (k + (i : Int)) tk, x'], .cons ⟨_, rfl⟩ (.cons ru .nil), ⟨_, hT2, rfl, _, rfl⟩⟩
    have I1 : Inv X pins σ (upd H s.heap.objs.size (.tup [.int (k + (i : Nat)), x])) { s with heap := h'', toks := tk + 1 } :=
      I.turnedNew (ch := [e, it]) (fun b ob hb q => (sb.2 b (fun z => hb (by simp [z]))).trans (hk b ob (fun z => hb (by simp [z])) (fun z => hb (by simp [z])) q)) hf (Nat.le_refl _) new
    refine ⟨.ref s.heap.objs.size, _, I1, rfl, ⟨_, x, rfl, I.hok.fresh (Nat.le_refl _), rfl, fun ys hy => by rw [I.list_inj hy hq]; exact hx⟩, ⟨⟨x', ?_⟩, hst.1.at fun o q => (sb.2 it (Ne.symm hne)).trans q, hne⟩, fun b hb => ?_⟩
    · have e1 : k + ((i + 1 : Nat) : Int) = k + (i : Int) + 1 := by omega
      rw [e1]; exact he'
    · have hb' : b < s.heap.objs.size := by
        have e' : b = e ∨ b = it := by simpa using hb
        rcases e' with z | z
        · rw [z]; exact hel
        · rw [z]; exact hil
      rw [upd_ne (Nat.ne_of_lt hb')]
      exact (hf b hb).1
  done := by
    intro X hP hw hK hc i pins s σ H E I hf st hg
    subst hP hw hK
    obtain ⟨⟨old, he⟩, hit, hne⟩ := st
    obtain ⟨xs, hq, hx⟩ := hg
    obtain ⟨its, rv, p, hz⟩ := I.list hq
    obtain ⟨f0, f1, f2, f3, f4, f5⟩ := hf it (by simp)
    have hl := rv.length
    subst hx
    have hita : a ≠ it := fun z => by
      obtain ⟨o, ho, hcl, _⟩ := p.isList
      obtain ⟨o', ho', hcl', _⟩ := hit
      rw [z, ho'] at ho
      cases ho
      rw [hcl'] at hcl
      injection hcl with hcl
      exact absurd hcl (by decide)
    have en : its.toArray.size = xs.length := by rw [List.size_toArray]; exact hl.symm
    refine wpAny_pyNext_enum_endD (Draws.list (A := X.A.in1) (I.ok.hd hc) it a hita its.toArray) (i := k + ((xs.length : Nat) : Int)) he (by rw [en]; exact ⟨hit, p.isList⟩) fun h' eb => ⟨rfl, I.turned (t' := s.toks) (fun b o hb q => eb b o hb q) f0 f1 f3 f4 f5⟩
  self := fun A i s Q E st h => let ⟨⟨_, he⟩, _⟩ := st; wpAny_pyIter_enum he h
theorem strIter_at {h h' : Heap} {a : Addr} {ty : String} {x : Str} {t : Tok} {i : Nat} (y : h.IsStrIter a ty x t i) (k : ∀ o, h.get? a = some o → h'.get? a = some o) : h'.IsStrIter a ty x t i :=
  let ⟨o, ho, r⟩ := y; ⟨o, k o ho, r⟩
def IteS (z : Str) (k : Int) : It :=
  ⟨fun i _ => i < z.cps.size, fun i H v H' => ∃ T c, v = .ref T ∧ H T = none ∧ z.cps[i]? = some c ∧ H' = upd H T (.tup [.int (k + (i : Nat)), .str ⟨#[c]⟩]), fun i _ => i = z.cps.size⟩
theorem wlk_enumS {K : Fg} {M H : Hp} {z : Str} {k : Int} : Wlk K (IteS z k) (enumD k (z.cps.toList.map fun c => PyData.str ⟨#[c]⟩)) M H := by
  refine ⟨fun i e he => ?_, ?_⟩
  · obtain ⟨d, e0, rfl⟩ := enumD_get _ k i e he
    rw [List.getElem?_map] at e0
    obtain ⟨c, e1, rfl⟩ := Option.map_eq_some_iff.mp e0
    rw [Array.getElem?_toList] at e1
    refine ⟨(Array.getElem?_eq_some_iff.mp e1).1, fun x H' y => ?_⟩
    obtain ⟨T, c', rfl, hT, h1, rfl⟩ := y
    rw [e1] at h1; cases h1
    exact .tup hT (.cons (.int _) (.cons (.str _) .nil))
  · show _ = z.cps.size
    rw [enumD_len, List.length_map, Array.length_toList]
theorem turn_enumS {P : Program} {w : World} {K : Fg} {elts : List Expr} {kk : Nat} {tpos : Pos} (z : Str) (t : Tok) (e it : Addr) (k : Int) :
    Turn P w K (.Tuple elts kk tpos) (IteS z k) [e, it] e (fun i h => (∃ old, IsEnum h e it (k + ((i : Nat) : Int)) old) ∧ h.IsStrIter it (strIterType z) z t i ∧ e ≠ it) where
  mem := by simp
  obj := fun i h st b hb => by
    obtain ⟨⟨old, he⟩, ⟨o, ho, hc, hd⟩, _⟩ := st
    have e' : b = e ∨ b = it := by simpa using hb
    rcases e' with z | z
    · rw [z]; exact ⟨_, he, fun v q => nomatch q⟩
    · rw [z]; exact ⟨o, ho, fun v q => by rw [hd] at q; cases q⟩
  keep := fun i h h' st q => let ⟨⟨old, he⟩, hi, hne⟩ := st; ⟨⟨old, q e (by simp) _ he⟩, strIter_at hi fun o z => q it (by simp) o z, hne⟩
  item := by
    intro X hP hw hK hc i pins s σ H E I hf st hg
    subst hP hw hK
    obtain ⟨⟨old, he⟩, hit, hne⟩ := st
    have hg : i < z.cps.size := hg
    have hel : e < s.heap.objs.size := Heap.lt_size he
    have hil : it < s.heap.objs.size := by obtain ⟨_, q, _⟩ := hit; exact Heap.lt_size q
    refine wpAny_pyNext_enum_itemC (Draws.text (A := X.A.in1) (I.ok.hd hc) it z t) he (i := i) hit hg hne (by simp [hne]) fun x' h' tk hP ho hst hT hsz hk => ?_
    obtain ⟨c, u, hcu, rfl⟩ := hP
    refine ⟨_, rfl, wpAny_letOwnedTupleGo_enum (s := { s with heap := h', toks := tk + 1 }) ho fun h'' he' sb => ?_⟩
    have hT2 : h''.get? s.heap.objs.size = some { cls := .type "tuple", data := .seq #[.int (k + (i : Int)) tk, .str ⟨#[c]⟩ u] } := (sb.2 _ (Nat.ne_of_gt hel)).trans hT
    have new : ObjOk X.prog X.w (upd H s.heap.objs.size (.tup [.int (k + (i : Nat)), .str ⟨#[c]⟩])) h'' s.heap.objs.size (.tup [.int (k + (i : Nat)), .str ⟨#[c]⟩]) :=
      ⟨by show 2 ≤ sizeLine; decide, [.int (k + (i : Int)) tk, .str ⟨#[c]⟩ u], .cons ⟨_, rfl⟩ (.cons ⟨_, rfl⟩ .nil), ⟨_, hT2, rfl, _, rfl⟩⟩
    have I1 : Inv X pins σ (upd H s.heap.objs.size (.tup [.int (k + (i : Nat)), .str ⟨#[c]⟩])) { s with heap := h'', toks := tk + 1 } :=
      I.turnedNew (ch := [e, it]) (fun b ob hb q => (sb.2 b (fun z => hb (by simp [z]))).trans (hk b ob (fun z => hb (by simp [z])) (fun z => hb (by simp [z])) q)) hf (Nat.le_refl _) new
    refine ⟨.ref s.heap.objs.size, _, I1, rfl, ⟨_, c, rfl, I.hok.fresh (Nat.le_refl _), hcu, rfl⟩, ⟨⟨.str ⟨#[c]⟩ u, ?_⟩, strIter_at hst fun o q => (sb.2 it (Ne.symm hne)).trans q, hne⟩, fun b hb => ?_⟩
    · have e1 : k + ((i + 1 : Nat) : Int) = k + (i : Int) + 1 := by omega
      rw [e1]; exact he'
    · have hb' : b < s.heap.objs.size := by
        have e' : b = e ∨ b = it := by simpa using hb
        rcases e' with z | z
        · rw [z]; exact hel
        · rw [z]; exact hil
      rw [upd_ne (Nat.ne_of_lt hb')]
      exact (hf b hb).1
  done := by
    intro X hP hw hK hc i pins s σ H E I hf st hg
    subst hP hw hK
    obtain ⟨⟨old, he⟩, hit, hne⟩ := st
    have hg : i = z.cps.size := hg
    subst hg
    obtain ⟨f0, f1, f2, f3, f4, f5⟩ := hf it (by simp)
    refine wpAny_pyNext_enum_endD (Draws.text (A := X.A.in1) (I.ok.hd hc) it z t) (i := k + ((z.cps.size : Nat) : Int)) he hit fun h' eb => ⟨rfl, I.turned (t' := s.toks) (fun b o hb q => eb b o hb q) f0 f1 f3 f4 f5⟩
  self := fun A i s Q E st h => let ⟨⟨_, he⟩, _⟩ := st; wpAny_pyIter_enum he h
set_option maxHeartbeats 1000000 in
theorem meets_enumerate_new1 {v : Value} {o : Obj} {Hh : Heap → Prop} (B : Begins v o Hh) :
    Meets (Builtin.«enumerate.__new__» ⟨[.type "enumerate", v], []⟩) (fun _ R s => Hh s.heap ∧
      R (.ok (.ret (.ref (s.heap.push o).objs.size))) { s with heap := (s.heap.push o).push { cls := .type "enumerate", data := .fields #[.none, .bool false, .ref s.heap.objs.size, rawInt 0, .none, .none] } }) :=
  .of_wp fun prog w A R s h => by
    obtain ⟨hp, g, d, tk, os⟩ := s; obtain ⟨h1, h⟩ := h
    have hsub := sub_enumerate
    have q1 : ∀ {A' : Around} {E : Value → Shared → Prop} {Q : Value → Shared → Prop}, Q (.ref hp.objs.size) ⟨hp.push o, g, d, tk, os⟩ → wpAny (model prog w) A' (pyIter v) Q E ⟨hp, g, d, tk, os⟩ :=
      fun q => B.iter prog w _ _ ⟨hp, g, d, tk, os⟩ _ h1 q
    wp_walk using q1
    refine wpAny_stack_any fun st => wpAny_pure ?_
    split
    · rename_i c _ _ _ _ _
      cases (c == Value.type "enumerate")
      · wp_walk using q1
        exact ⟨_, rfl, h⟩
      · wp_walk using q1
        exact ⟨_, rfl, h⟩
    · wp_walk using q1
      exact ⟨_, rfl, h⟩
theorem enum_begins1 {prog : Program} {w : World} {A : Around} {E : Value → Shared → Prop} {s : Shared} {v : Value} {o : Obj} {Hh : Heap → Prop} {Q : Value → Shared → Prop} (B : Begins v o Hh) (h1 : Hh s.heap)
    (h : ∀ h', IsEnum h' (s.heap.objs.size + 1) s.heap.objs.size 0 .none → h'.get? s.heap.objs.size = some o → (∀ b o, s.heap.get? b = some o → h'.get? b = some o) → Q (.ref (s.heap.objs.size + 1)) { s with heap := h' }) :
    wpAny (model prog w) A (call (.type "enumerate") [v]) Q E s := by
  refine callType_new F.called_enumerate (by decide) (F.typeCall_enumerate_1 _) (F.newCall_enumerate_1 _) (fun obj => F.args_object_init_2 obj _) F.entry_enumerate_new
    (meets_enumerate_new1 B) ⟨h1, ?_⟩
  have hz : (s.heap.push o).objs.size = s.heap.objs.size + 1 := Heap.size_push ..
  show _ ∧ _
  rw [hz]
  have he : IsEnum ((s.heap.push o).push { cls := .type "enumerate", data := .fields #[.none, .bool false, .ref s.heap.objs.size, rawInt 0, .none, .none] }) (s.heap.objs.size + 1) s.heap.objs.size 0 .none := by
    have := Heap.get?_push_size (s.heap.push o) (o := { cls := .type "enumerate", data := .fields #[.none, .bool false, .ref s.heap.objs.size, rawInt 0, .none, .none] }) rfl
    rw [hz] at this; exact this
  exact ⟨⟨_, he, rfl⟩, h _ he (Heap.get?_push_of_some _ (Heap.get?_push_size _ B.free)) fun b o x => Heap.get?_push_of_some _ (Heap.get?_push_of_some _ x)⟩
section
variable {X : Cx} {W : Xw} {C : Cn} {N : Nm}
theorem enum_fp {pins : List (Addr × Obj)} {σ : L2.St} {H : Hp} {s : Shared} (I : Inv X pins σ H s) : ∀ b ∈ [s.heap.objs.size + 1, s.heap.objs.size], FpOk X pins H b := fun b hb => by
  have e' : b = s.heap.objs.size + 1 ∨ b = s.heap.objs.size := by simpa using hb
  have hle : s.heap.objs.size ≤ b := by
    rcases e' with z | z
    · rw [z]; exact Nat.le_add_right _ _
    · rw [z]; exact Nat.le_refl _
  exact I.fpOk hle (I.hok.fresh hle)
theorem enumT_it {elts : List Expr} {kk : Nat} {tpos : Pos} {pins : List (Addr × Obj)} {σ : L2.St} {H : Hp} {s : Shared} {a : Addr} {k : Int} {h' : Heap} {R : It → Hp → Prop} {E : Value → Shared → Prop} (I : Inv X pins σ H s)
    (he : IsEnum h' (s.heap.objs.size + 1) s.heap.objs.size k .none) (hi : h'.get? s.heap.objs.size = some { cls := .type "tuple_iterator", data := .fields #[.ref a, .int 0 0] }) (hk : ∀ b o, s.heap.get? b = some o → h'.get? b = some o) (q : R (IteT X.K a k) H) :
    wpAny (model X.prog X.w) X.A (pyIter (.ref (s.heap.objs.size + 1))) (PIE X pins σ (.Tuple elts kk tpos) R) E { s with heap := h' } := by
  refine wpAny_pyIter_enum he ?_
  have I2 : Inv X pins σ H { s with heap := h' } := I.kept (t' := s.toks) hk
  refine ⟨s.heap.objs.size + 1, [s.heap.objs.size + 1, s.heap.objs.size], _, _, H, rfl, I2, turn_enumT a (s.heap.objs.size + 1) s.heap.objs.size k, ⟨⟨.none, ?_⟩, ⟨_, hi, rfl, rfl⟩, Nat.succ_ne_self _⟩, fun b hb => ?_, q⟩
  · have e1 : k + ((0 : Nat) : Int) = k := by omega
    rw [e1]; exact he
  have e' : b = s.heap.objs.size + 1 ∨ b = s.heap.objs.size := by simpa using hb
  have hle : s.heap.objs.size ≤ b := by
    rcases e' with z | z
    · rw [z]; exact Nat.le_add_right _ _
    · rw [z]; exact Nat.le_refl _
  exact I.fpOk hle (I.hok.fresh hle)
theorem enumL_it {elts : List Expr} {kk : Nat} {tpos : Pos} {pins : List (Addr × Obj)} {σ : L2.St} {H : Hp} {s : Shared} {a : Addr} {k : Int} {h' : Heap} {R : It → Hp → Prop} {E : Value → Shared → Prop} (I : Inv X pins σ H s)
    (he : IsEnum h' (s.heap.objs.size + 1) s.heap.objs.size k .none) (hi : h'.get? s.heap.objs.size = some { cls := .type "list_iterator", data := .fields #[.ref a, .int 0 0] }) (hk : ∀ b o, s.heap.get? b = some o → h'.get? b = some o) (q : R (IteL X.K a k) H) :
    wpAny (model X.prog X.w) X.A (pyIter (.ref (s.heap.objs.size + 1))) (PIE X pins σ (.Tuple elts kk tpos) R) E { s with heap := h' } := by
  refine wpAny_pyIter_enum he ?_
  have I2 : Inv X pins σ H { s with heap := h' } := I.kept (t' := s.toks) hk
  refine ⟨s.heap.objs.size + 1, [s.heap.objs.size + 1, s.heap.objs.size], _, _, H, rfl, I2, turn_enumL a (s.heap.objs.size + 1) s.heap.objs.size k, ⟨⟨.none, ?_⟩, ⟨_, hi, rfl, rfl⟩, Nat.succ_ne_self _⟩, enum_fp I, q⟩
  have e1 : k + ((0 : Nat) : Int) = k := by omega
  rw [e1]; exact he
theorem enumS_it {elts : List Expr} {kk : Nat} {tpos : Pos} {pins : List (Addr × Obj)} {σ : L2.St} {H : Hp} {s : Shared} {z : Str} {t : Tok} {k : Int} {h' : Heap} {R : It → Hp → Prop} {E : Value → Shared → Prop} (I : Inv X pins σ H s)
    (he : IsEnum h' (s.heap.objs.size + 1) s.heap.objs.size k .none) (hi : h'.get? s.heap.objs.size = some { cls := .type (strIterType z), data := .fields #[.str z t, .int 0 0] }) (hk : ∀ b o, s.heap.get? b = some o → h'.get? b = some o) (q : R (IteS z k) H) :
    wpAny (model X.prog X.w) X.A (pyIter (.ref (s.heap.objs.size + 1))) (PIE X pins σ (.Tuple elts kk tpos) R) E { s with heap := h' } := by
  refine wpAny_pyIter_enum he ?_
  have I2 : Inv X pins σ H { s with heap := h' } := I.kept (t' := s.toks) hk
  refine ⟨s.heap.objs.size + 1, [s.heap.objs.size + 1, s.heap.objs.size], _, _, H, rfl, I2, turn_enumS z t (s.heap.objs.size + 1) s.heap.objs.size k, ⟨⟨.none, ?_⟩, ⟨_, hi, rfl, rfl⟩, Nat.succ_ne_self _⟩, enum_fp I, q⟩
  have e1 : k + ((0 : Nat) : Int) = k := by omega
  rw [e1]; exact he
/-- what is walked by enumerate, from k -/
def REn (K : Fg) (k : Int) (v : V) (H : Hp) (R : It → Hp → Prop) : Prop :=
  (∃ a xs, v = .ref a ∧ SqL K H a xs ∧ R (IteL K a k) H) ∨ (∃ a xs, v = .ref a ∧ SqT K H a xs ∧ R (IteT K a k) H) ∨ ∃ z, v = .str z ∧ R (IteS z k) H
/-- the call, k told or not -/
theorem enum_go {elts : List Expr} {kk : Nat} {tpos : Pos} {pins : List (Addr × Obj)} {σ : L2.St} {H : Hp} {s : Shared} {v : V} {u : Value} {k : Int} {kw : List (Str × Value)} {R : It → Hp → Prop} {E : Value → Shared → Prop} (I : Inv X pins σ H s) (r : RelV v u) (h : REn X.K k v H R)
    (go : ∀ {o : Obj} {Hh : Heap → Prop} {Q : Value → Shared → Prop} {E : Value → Shared → Prop}, Begins u o Hh → Hh s.heap → (∀ h', IsEnum h' (s.heap.objs.size + 1) s.heap.objs.size k .none → h'.get? s.heap.objs.size = some o → (∀ b o, s.heap.get? b = some o → h'.get? b = some o) → Q (.ref (s.heap.objs.size + 1)) { s with heap := h' }) → wpAny (model X.prog X.w) X.A (call (.type "enumerate") [u] kw) Q E s) :
    wpAny (model X.prog X.w) X.A (call (.type "enumerate") [u] kw) (fun y s' => wpAny (model X.prog X.w) X.A (pyIter y) (PIE X pins σ (.Tuple elts kk tpos) R) E s') E s := by
  rcases h with ⟨a, xs, rfl, hq, q⟩ | ⟨a, xs, rfl, hq, q⟩ | ⟨z, rfl, q⟩
  · cases r
    obtain ⟨its, rv, p', hz⟩ := I.list hq
    exact go (begins_list a its.toArray) p'.isList fun h' he' hi hk => enumL_it I he' hi hk q
  · cases r
    obtain ⟨its, rv, p', hz⟩ := I.tuple hq
    exact go (begins_tuple a its.toArray) p' fun h' he' hi hk => enumT_it I he' hi hk q
  · obtain ⟨t, rfl⟩ := r
    exact go (begins_text z t) trivial fun h' he' hi hk => enumS_it I he' hi hk q
/-- enumerate(e) -/
theorem pi_enumV {e : Expr} {ta : TA} {p pos tpos : Pos} {elts : List Expr} {kk : Nat} (hg : Gl X "enumerate") (hm : X.mg "enumerate" = none) (ha : PA X [e] ta) (hn : noStar e = true) :
    PI X (.Tuple elts kk tpos) (.Call (.Name "enumerate" p) [e] [] pos) (fun σ H R => ta σ H fun vs H1 => ∃ v, vs = [v] ∧ REn X.K 0 v H1 R) := by
  refine ⟨fun pins s σ H R I h => ?_⟩
  refine PyProof.Rows.Call_ (ld_blt I hg hm PyProof.Rows.boot_enumerate (PyProof.Rows.callWith_type1 (thn (ha.run pos pins s σ H _ I h) fun us s1 ⟨vs, H1, I1, r1, v, ex, q⟩ => ?_) (star_cons hn) rfl))
  subst ex
  cases r1 with
  | cons r rr =>
    cases rr
    exact enum_go I1 r q fun B h1 h => enum_begins1 B h1 h
theorem keeps_type {T : String} (h : Heap) (_ : True) : ∃ k, (k = Keeper.frame ∨ k = Keeper.machine ∨ k = Keeper.boundFrame) ∧ PySem.W.Looks (model X.prog X.w) h (keeperOf (.type T)) k :=
  ⟨.machine, .inr (.inl rfl), PySem.W.Looks.now⟩
/-- enumerate(e, start=k) -/
theorem pi_enumK {e : Expr} {ta : TA} {p pos tpos p2 p3 : Pos} {elts : List Expr} {kk j : Nat} {k : Int} (hg : Gl X "enumerate") (hm : X.mg "enumerate" = none) (ha : PA X [e] ta) (hn : noStar e = true) (hk : okI k = true) :
    PI X (.Tuple elts kk tpos) (.Call (.Name "enumerate" p) [e] [⟨some "start", .Constant (.int k) j p2, p3⟩] pos) (fun σ H R => ta σ H fun vs H1 => ∃ v, vs = [v] ∧ REn X.K k v H1 R) := by
  refine ⟨fun pins s σ H R I h => ?_⟩
  have hb := of_decide_eq_true hk
  refine wpAny_Call_Name_kw (ld_blt I hg hm PyProof.Rows.boot_enumerate ?_)
  refine PySem.W.callWith_of (P := fun _ => True) (by rw [star_cons hn]; rfl) (keeps_type (X := X)) (PyProof.Rows.evalArgs_kw2 rfl ?_ (star_cons hn))
  refine thn (ha.run pos pins s σ H _ I h) fun us s1 ⟨vs, H1, I1, r1, v, ex, q⟩ => ?_
  subst ex
  have hc : PE X (.Constant (.int k) j p2) (tC (.int k)) := pe_int
  refine PyProof.Rows.kwAll_cons (thn (hc.run pins s1 σ H1 (fun v H2 => v = .int k ∧ H2 = H1) I1 ⟨rfl, rfl⟩) fun u s2 ⟨w, H2, I2, r2, e1, e2⟩ => ?_)
  subst e1 e2
  obtain ⟨t, rfl⟩ := r2
  refine PyProof.Rows.kwAll_nil ⟨trivial, ?_⟩
  cases r1 with
  | cons r rr =>
    cases rr
    exact enum_go I2 r q fun B h1 h => enum_begins_start B h1 (by omega) (by omega) fun h' a b _ d => h h' a b d
theorem i_enumV {e call : Expr} {c : CE} {tpos : Pos} {elts : List Expr} {kk : Nat} {k : Int} (he : PE X e (tE W X.K C c)) (hn : noStar e = true)
    (hp : PI X (.Tuple elts kk tpos) call (fun σ H R => tCons (tE W X.K C c) tNil σ H fun vs H1 => ∃ v, vs = [v] ∧ REn X.K k v H1 R)) :
    PI X (.Tuple elts kk tpos) call (tI W X.K C (.enum k c)) := by
  refine PI_imp hp fun σ H R ⟨G, H0, mu0, mu, s0, R0, h⟩ => ⟨G, H0, mu0, mu, s0, R0, ?_⟩
  rw [evI] at h
  refine (Post.bind (Rv := RvE X.K G H0 mu0 σ) bkI h).imp fun v H1 ⟨r, mu1, s1, em, nx, rv, h⟩ => ?_
  refine ⟨v, rfl, ?_⟩
  cases e1 : s1.res r with
  | none => rw [e1] at h; exact h.elim
  | some d =>
    rw [e1] at h
    cases d with
    | list xs =>
      dsimp only at h
      split at h
      · obtain ⟨a, vs, rfl, da, k⟩ := RDmask nx.rel rv.w e1
        exact .inl ⟨a, _, rfl, k _ _ Tm.refl hid_le fun _ _ _ _ => rfl, Post.pure (Rv := RvI X.K G σ) nx.rel h ⟨fun i z => lends_own z, fun M' H' t1 t2 q => wlk_enumLk (k M' H' t1 t2 q) (daT t1 da)⟩⟩
      · exact h.elim
    | tuple xs =>
      dsimp only at h
      split at h
      · obtain ⟨a, vs, rfl, ha, da, _⟩ := (rv.w.res nx.rel e1).tup
        exact .inr (.inl ⟨a, _, rfl, (hid_le (G := G)).sqT ha, Post.pure (Rv := RvI X.K G σ) nx.rel h ⟨(fun i z => by cases z), fun M' H' t1 t2 q => wlk_enumT (t2.sqT (t1.sqT ha)) (daT t1 da)⟩⟩)
      · exact h.elim
    | str z =>
      dsimp only at h
      split at h
      · exact .inr (.inr ⟨z, (rv.w.res nx.rel e1).str, Post.pure (Rv := RvI X.K G σ) nx.rel h ⟨(fun i z => by cases z), fun M' H' t1 t2 q => wlk_enumS⟩⟩)
      · exact h.elim
    | none => exact h.elim
    | bool _ => exact h.elim
    | int _ => exact h.elim
    | dict _ => exact h.elim
/-- enumerate(e) -/
theorem i_enum (ok : XOk X W C N) {e : Expr} {c : CE} {p pos tpos : Pos} {elts : List Expr} {kk : Nat} (hg : glB N.sc "enumerate" = true) (hm : X.mg "enumerate" = none) (he : PE X e (tE W X.K C c)) (hn : noStar e = true) :
    PI X (.Tuple elts kk tpos) (.Call (.Name "enumerate" p) [e] [] pos) (tI W X.K C (.enum 0 c)) :=
  i_enumV he hn (pi_enumV (glB_ok ok hg) hm (pa_cons he pa_nil (star_cons hn)) hn)
/-- enumerate(e, start=k) -/
theorem i_enumK (ok : XOk X W C N) {e : Expr} {c : CE} {p pos tpos p2 p3 : Pos} {elts : List Expr} {kk j : Nat} {k : Int} (hg : glB N.sc "enumerate" = true) (hm : X.mg "enumerate" = none) (he : PE X e (tE W X.K C c)) (hn : noStar e = true) (hk : okI k = true) :
    PI X (.Tuple elts kk tpos) (.Call (.Name "enumerate" p) [e] [⟨some "start", .Constant (.int k) j p2, p3⟩] pos) (tI W X.K C (.enum k c)) :=
  i_enumV he hn (pi_enumK (glB_ok ok hg) hm (pa_cons he pa_nil (star_cons hn)) hn hk)
/-- zip(a, b) -/
theorem i_zip (ok : XOk X W C N) {e f : Expr} {a b : CE} {p pos tpos : Pos} {elts : List Expr} {kk : Nat} (hg : glB N.sc "zip" = true) (hm : X.mg "zip" = none) (ha : PE X e (tE W X.K C a)) (hb : PE X f (tE W X.K C b)) (hn : noStar e = true) (hn2 : noStar f = true) :
    PI X (.Tuple elts kk tpos) (.Call (.Name "zip" p) [e, f] [] pos) (tI W X.K C (.zip false a b)) := by
  have g := glB_ok ok hg
  refine PI_imp (RZ.pi_zipA g hm (pa_cons ha (pa_cons hb pa_nil (star_cons hn2)) (star_cons hn)) (star_cons hn) (by rw [star_cons hn2]; rfl)) fun σ H R ⟨G, H0, mu0, mu, s0, R0, h⟩ => ⟨G, H0, mu0, mu, s0, R0, ?_⟩
  rw [evI] at h
  refine (Post.bind (Rv := RvE X.K G H0 mu0 σ) bkI h).imp fun v H1 ⟨r, mu1, s1, em, nx, rv, h⟩ => ?_
  cases q1 : s1.escD r with
  | exc c fs s2 => exact (escD_noexc q1).elim
  | stuck => rw [q1] at h; exact h.elim
  | ok x s2 =>
    rw [q1] at h
    obtain ⟨nx2, dx⟩ := escD_nx nx.rel rv.w q1
    have h := Post.on bkI nx2 h
    refine ⟨G, H0, mu0, mu1, s2, nx2.rel, (Post.bind (Rv := RvE X.K G H0 mu0 σ) bkI h).imp fun u H2 ⟨r2, mu3, s3, em3, nx3, rv3, h⟩ => ?_⟩
    cases q2 : s3.escD r2 with
    | exc c fs s4 => exact (escD_noexc q2).elim
    | stuck => rw [q2] at h; exact h.elim
    | ok y s4 =>
      rw [q2] at h
      obtain ⟨nx4, dy⟩ := escD_nx nx3.rel rv3.w q2
      have h := Post.on bkI nx4 h
      have dx := dpT (nx3.tm.trans nx4.tm) dx
      simp only [O.bind] at h
      split at h
      · rename_i xs ys
        split at h
        case isFalse => exact h.elim
        cases dx with
        | lst hx ax =>
          cases dy with
          | lst hy ay =>
            exact ⟨_, _, _, _, rfl, .inl ⟨(hid_le (G := G)).sqL hx, (hid_le (G := G)).sqL hy, Post.pure (Rv := RvI X.K G σ) nx4.rel h ⟨(fun i z => by cases z), fun M' H' t1 t2 q => wlk_zip (t2.sqL (t1.sqL hx)) (t2.sqL (t1.sqL hy)) (daT t1 ax) (daT t1 ay)⟩⟩⟩
      · rename_i xs ys
        split at h
        case isFalse => exact h.elim
        cases dx with
        | tup hx ax =>
          cases dy with
          | tup hy ay =>
            exact ⟨_, _, _, _, rfl, .inr ⟨(hid_le (G := G)).sqT hx, (hid_le (G := G)).sqT hy, Post.pure (Rv := RvI X.K G σ) nx4.rel h ⟨(fun i z => by cases z), fun M' H' t1 t2 q => wlk_zipT (t2.sqT (t1.sqT hx)) (t2.sqT (t1.sqT hy)) (daT t1 ax) (daT t1 ay)⟩⟩⟩
      · exact h.elim
/-- zip(a, b, strict=True) -/
theorem i_zipS (ok : XOk X W C N) {e f : Expr} {a b : CE} {p pos tpos p2 p3 : Pos} {j : Nat} {elts : List Expr} {kk : Nat} (hg : glB N.sc "zip" = true) (hm : X.mg "zip" = none) (ha : PE X e (tE W X.K C a)) (hb : PE X f (tE W X.K C b)) (hn : noStar e = true) (hn2 : noStar f = true) :
    PI X (.Tuple elts kk tpos) (.Call (.Name "zip" p) [e, f] [⟨some "strict", .Constant (.bool true) j p2, p3⟩] pos) (tI W X.K C (.zip true a b)) := by
  have g := glB_ok ok hg
  refine PI_imp (ZS.pi_zipS g hm (pa_cons ha (pa_cons hb pa_nil (star_cons hn2)) (star_cons hn)) (star_cons hn) (by rw [star_cons hn2]; rfl)) fun σ H R ⟨G, H0, mu0, mu, s0, R0, h⟩ => ⟨G, H0, mu0, mu, s0, R0, ?_⟩
  rw [evI] at h
  refine (Post.bind (Rv := RvE X.K G H0 mu0 σ) bkI h).imp fun v H1 ⟨r, mu1, s1, em, nx, rv, h⟩ => ?_
  cases q1 : s1.escD r with
  | exc c fs s2 => exact (escD_noexc q1).elim
  | stuck => rw [q1] at h; exact h.elim
  | ok x s2 =>
    rw [q1] at h
    obtain ⟨nx2, dx⟩ := escD_nx nx.rel rv.w q1
    have h := Post.on bkI nx2 h
    refine ⟨G, H0, mu0, mu1, s2, nx2.rel, (Post.bind (Rv := RvE X.K G H0 mu0 σ) bkI h).imp fun u H2 ⟨r2, mu3, s3, em3, nx3, rv3, h⟩ => ?_⟩
    cases q2 : s3.escD r2 with
    | exc c fs s4 => exact (escD_noexc q2).elim
    | stuck => rw [q2] at h; exact h.elim
    | ok y s4 =>
      rw [q2] at h
      obtain ⟨nx4, dy⟩ := escD_nx nx3.rel rv3.w q2
      have h := Post.on bkI nx4 h
      have dx := dpT (nx3.tm.trans nx4.tm) dx
      simp only [O.bind] at h
      split at h
      · rename_i xs ys
        split at h
        case isFalse => exact h.elim
        rename_i hf
        exact (hf.2 trivial).elim
      · rename_i xs ys
        split at h
        case isFalse => exact h.elim
        rename_i hf
        cases dx with
        | tup hx ax =>
          cases dy with
          | tup hy ay =>
            exact ⟨_, _, _, _, rfl, (hid_le (G := G)).sqT hx, (hid_le (G := G)).sqT hy, Post.pure (Rv := RvI X.K G σ) nx4.rel h ⟨(fun i z => by cases z), fun M' H' t1 t2 q => wlk_zipS (hf.2 trivial) (t2.sqT (t1.sqT hx)) (t2.sqT (t1.sqT hy)) (daT t1 ax) (daT t1 ay)⟩⟩
      · exact h.elim
end
end Pur
end
section
set_option Elab.async false
set_option linter.all false
set_option maxHeartbeats 1000000
namespace Pur
open PySem PySem.Spec L2
/-! ### comprehensions -/
theorem wipeE_len (env : List EV) : ∀ vs : List Nat, (wipeE env vs).length = env.length
  | [] => rfl
  | v :: vs => by unfold wipeE; rw [List.length_set, wipeE_len env vs]
theorem wipeE_in {env : List EV} {i : Nat} (h : i < env.length) : ∀ {vs : List Nat}, i ∈ vs → (wipeE env vs)[i]? = some .non
  | v :: vs, m => by
    unfold wipeE
    by_cases e : v = i
    · subst e; exact List.getElem?_set_self (by rw [wipeE_len]; exact h)
    · rw [List.getElem?_set_ne e]
      exact wipeE_in h ((List.mem_cons.mp m).resolve_left fun q => e q.symm)
theorem wipeE_out {env : List EV} {i : Nat} : ∀ {vs : List Nat}, i ∉ vs → (wipeE env vs)[i]? = env[i]?
  | [], _ => rfl
  | v :: vs, m => by
    unfold wipeE
    rw [List.getElem?_set_ne fun e => m (by rw [e]; exact List.mem_cons_self), wipeE_out fun q => m (List.mem_cons_of_mem _ q)]
theorem backE_len (old env : List EV) : ∀ vs : List Nat, (backE old env vs).length = env.length
  | [] => rfl
  | v :: vs => by unfold backE; rw [List.length_set, backE_len old env vs]
theorem backE_in {old env : List EV} {i : Nat} (h : i < env.length) : ∀ {vs : List Nat}, i ∈ vs → (backE old env vs)[i]? = some (old.getD i .non)
  | v :: vs, m => by
    unfold backE
    by_cases e : v = i
    · subst e; exact List.getElem?_set_self (by rw [backE_len]; exact h)
    · rw [List.getElem?_set_ne e]
      exact backE_in h ((List.mem_cons.mp m).resolve_left fun q => e q.symm)
theorem backE_out {old env : List EV} {i : Nat} : ∀ {vs : List Nat}, i ∉ vs → (backE old env vs)[i]? = env[i]?
  | [], _ => rfl
  | v :: vs, m => by
    unfold backE
    rw [List.getElem?_set_ne fun e => m (by rw [e]; exact List.mem_cons_self), backE_out fun q => m (List.mem_cons_of_mem _ q)]
theorem lendE_len (p : Option Nat) (env : List EV) : (lendE p env).length = env.length := by
  unfold lendE
  split
  · split
    · exact List.length_set
    · rfl
  · rfl
theorem unlendE_len (p : Option Nat) (env : List EV) : (unlendE p env).length = env.length := by
  unfold unlendE
  split
  · split
    · exact List.length_set
    · rfl
  · rfl
theorem lendE_get {p : Option Nat} {env : List EV} {i : Nat} {e : EV} (h : (lendE p env)[i]? = some e) : env[i]? = some e ∨ ∃ xs, e = .lent xs ∧ env[i]? = some (EV.own xs) := by
  unfold lendE at h
  split at h
  · rename_i k
    split at h
    · rename_i xs q
      by_cases z : k = i
      · subst z
        rw [List.getElem?_set_self (List.getElem?_eq_some_iff.mp q).1] at h
        cases h
        exact .inr ⟨xs, rfl, q⟩
      · rw [List.getElem?_set_ne z] at h; exact .inl h
    · exact .inl h
  · exact .inl h
theorem unlendE_get {p : Option Nat} {env : List EV} {i : Nat} {e : EV} (h : (unlendE p env)[i]? = some e) : env[i]? = some e ∨ ∃ xs, e = .own xs ∧ env[i]? = some (EV.lent xs) := by
  unfold unlendE at h
  split at h
  · rename_i k
    split at h
    · rename_i xs q
      by_cases z : k = i
      · subst z
        rw [List.getElem?_set_self (List.getElem?_eq_some_iff.mp q).1] at h
        cases h
        exact .inr ⟨xs, rfl, q⟩
      · rw [List.getElem?_set_ne z] at h; exact .inl h
    · exact .inl h
  · exact .inl h
theorem lendE_lent {p : Option Nat} {env : List EV} {i : Nat} {xs : List D} (h : env[i]? = some (EV.lent xs)) : (lendE p env)[i]? = some (EV.lent xs) := by
  unfold lendE
  split
  · rename_i k
    split
    · rename_i ys q
      rw [List.getElem?_set_ne fun z => by rw [z, h] at q; cases q]
      exact h
    · exact h
  · exact h
theorem lendE_self {env : List EV} {i : Nat} {xs : List D} (h : env[i]? = some (EV.own xs)) : (lendE (some i) env)[i]? = some (EV.lent xs) := by
  unfold lendE
  simp only [h]
  exact List.getElem?_set_self (List.getElem?_eq_some_iff.mp h).1
theorem unlendE_lent {p : Option Nat} {env : List EV} {i : Nat} {xs : List D} (n : p ≠ some i) (h : env[i]? = some (EV.lent xs)) : (unlendE p env)[i]? = some (EV.lent xs) := by
  unfold unlendE
  split
  · rename_i k
    split
    · rw [List.getElem?_set_ne fun z => n (by rw [z])]
      exact h
    · exact h
  · exact h
theorem ownAt_lend {p : Option Nat} {env : List EV} {i : Nat} {xs : List D} (h : OwnAt (lendE p env) i xs) : OwnAt env i xs := by
  rcases h with h | h
  · rcases lendE_get h with q | ⟨ys, e, q⟩
    · exact .inl q
    · cases e
  · rcases lendE_get h with q | ⟨ys, e, q⟩
    · exact .inr q
    · cases e; exact .inl q
theorem ownAt_unlend {p : Option Nat} {env : List EV} {i : Nat} {xs : List D} (h : OwnAt (unlendE p env) i xs) : OwnAt env i xs := by
  rcases h with h | h
  · rcases unlendE_get h with q | ⟨ys, e, q⟩
    · exact .inl q
    · cases e; exact .inr q
  · rcases unlendE_get h with q | ⟨ys, e, q⟩
    · exact .inr q
    · cases e
theorem looseAt_ok {env : List EV} {i : Nat} (h : looseAt env i = true) : ∃ e, env[i]? = some e ∧ ∀ xs, e ≠ .own xs ∧ e ≠ .lent xs := by
  unfold looseAt at h
  split at h
  · cases h
  · cases h
  · rename_i e h1 h2 h3; exact ⟨e, h3, fun xs => ⟨fun z => h2 xs (z ▸ rfl), fun z => h1 xs (z ▸ rfl)⟩⟩
  · cases h
theorem wipe_in {σ : St} {i : Nat} (h : i < σ.length) : ∀ {vs : List Nat}, i ∈ vs → (wipe σ vs)[i]? = some none
  | v :: vs, m => by
    unfold wipe
    by_cases e : v = i
    · subst e; exact List.getElem?_set_self (by rw [wipe_length]; exact h)
    · rw [List.getElem?_set_ne e]
      exact wipe_in h ((List.mem_cons.mp m).resolve_left fun q => e q.symm)
theorem wipe_eq {σ τ : St} {vs : List Nat} (hl : τ.length = σ.length) (h : ∀ j, j ∉ vs → τ[j]? = σ[j]?) : wipe τ vs = wipe σ vs := by
  apply List.ext_getElem?
  intro i
  by_cases m : i ∈ vs
  · by_cases b : i < σ.length
    · rw [wipe_in b m, wipe_in (hl ▸ b) m]
    · rw [List.getElem?_eq_none (by rw [wipe_length]; omega), List.getElem?_eq_none (by rw [wipe_length]; omega)]
  · rw [wipe_out m, wipe_out m, h i m]
section
variable {K : Fg} {G G' : Addr → Prop} {H0 H H' H1 H2 : Hp} {mu0 mu mu' mu1 : List Addr} {s s' s1 : Sg} {σ σ' : St} {v : V}
theorem EvR.unown {M : Hp} {o : Option V} {xs : List D} (h : EvR K M mu H o (.own xs)) : EvR K M mu H o (.lent xs) := h
/-- a block's names are forgotten, a list is lent -/
theorem Rel.wiped (R : Rel K G H0 mu0 mu s σ H) (p : Option Nat) (vs : List Nat) :
    Rel K G H0 mu0 mu { s with env := wipeE (lendE p s.env) vs } (wipe σ vs) H ∧ Tm (hid G s.env σ H) (hid G (wipeE (lendE p s.env) vs) (wipe σ vs) H) := by
  have hl : (wipeE (lendE p s.env) vs).length = (wipe σ vs).length := by rw [wipeE_len, lendE_len, wipe_length]; exact R.len
  have out : ∀ {i e}, (wipeE (lendE p s.env) vs)[i]? = some e → i ∈ vs → e = .non := fun {i e} h m => by
    have hi : i < (lendE p s.env).length := by
      have := (List.getElem?_eq_some_iff.mp h).1
      rwa [wipeE_len] at this
    rw [wipeE_in hi m] at h
    exact (Option.some.inj h).symm
  refine R.re hl (fun i xs a h z => ?_) fun t i e q => ?_
  · have m : i ∉ vs := (wipe_some z).2
    have h2 : OwnAt (lendE p s.env) i xs := by unfold OwnAt at h ⊢; rwa [wipeE_out m] at h
    exact ⟨xs, ownAt_lend h2, (wipe_some z).1⟩
  · by_cases m : i ∈ vs
    · have := out q m
      subst this
      have hi : i < σ.length := by
        have := (List.getElem?_eq_some_iff.mp q).1
        rw [hl, wipe_length] at this
        exact this
      exact ⟨none, wipe_in hi m, trivial⟩
    · rw [wipeE_out m] at q
      rw [wipe_out m]
      rcases lendE_get q with q3 | ⟨xs, rfl, q3⟩
      · obtain ⟨o, e1, e2⟩ := R.slots i e q3
        exact ⟨o, e1, EvR.mono t (fun _ _ _ _ => rfl) (fun _ _ z => z) e2⟩
      · obtain ⟨o, e1, e2⟩ := R.slots i _ q3
        have e2 : EvR K _ mu H o (.lent xs) := e2
        exact ⟨o, e1, EvR.mono t (fun _ _ _ _ => rfl) (fun _ _ z => z) e2⟩
/-- the block's names are what they were -/
theorem Rel.backed (R0 : Rel K G H0 mu0 mu s σ H) (R : Rel K G' H0 mu0 mu' s' (wipe σ vs) H') (p : Option Nat) (loose : ∀ i ∈ vs, looseAt s.env i = true) (t0 : Tm (hid G s.env σ H) (hid G' s'.env (wipe σ vs) H')) (hm : ∀ (n : Nat) a, mu[n]? = some a → mu'[n]? = some a) :
    Rel K G' H0 mu0 mu' { s' with env := unlendE p (backE s.env s'.env vs) } σ H' ∧ Tm (hid G' s'.env (wipe σ vs) H') (hid G' (unlendE p (backE s.env s'.env vs)) σ H') := by
  have hl : (unlendE p (backE s.env s'.env vs)).length = σ.length := by rw [unlendE_len, backE_len, R.len, wipe_length]
  have inn : ∀ {i e}, (backE s.env s'.env vs)[i]? = some e → i ∈ vs → s.env[i]? = some e := fun {i e} h m => by
    have hi : i < s'.env.length := by
      have := (List.getElem?_eq_some_iff.mp h).1
      rwa [backE_len] at this
    rw [backE_in hi m] at h
    obtain ⟨e', q, _⟩ := looseAt_ok (loose i m)
    rw [List.getD_eq_getElem?_getD, q] at h
    rw [q]; exact h
  refine R.re hl (fun i xs a h z => ?_) fun t i e q => ?_
  · have h2 := ownAt_unlend h
    by_cases m : i ∈ vs
    · obtain ⟨e', q, n⟩ := looseAt_ok (loose i m)
      rcases h2 with h2 | h2
      · have := inn h2 m
        rw [q] at this
        exact absurd (Option.some.inj this) (n xs).1
      · have := inn h2 m
        rw [q] at this
        exact absurd (Option.some.inj this) (n xs).2
    · refine ⟨xs, ?_, by rw [wipe_out m]; exact z⟩
      unfold OwnAt at h2 ⊢
      rwa [backE_out m] at h2
  · by_cases m : i ∈ vs
    · have q' : s.env[i]? = some e := by
        rcases unlendE_get q with q3 | ⟨xs, rfl, q3⟩
        · exact inn q3 m
        · have := inn q3 m
          obtain ⟨e', q', n⟩ := looseAt_ok (loose i m)
          rw [q'] at this
          exact absurd (Option.some.inj this) (n xs).2
      obtain ⟨e', q2, n⟩ := looseAt_ok (loose i m)
      rw [q'] at q2
      cases q2
      obtain ⟨o, e1, e2⟩ := R0.slots i e q'
      exact ⟨o, e1, EvR.mono (t0.trans t) (fun a xs _ z => absurd z (by rintro (z | z); exact (n xs).1 z; exact (n xs).2 z)) hm e2⟩
    · have q' : ∀ {e}, (backE s.env s'.env vs)[i]? = some e → s'.env[i]? = some e := fun h => by rwa [backE_out m] at h
      have zz : ∀ {e}, s'.env[i]? = some e → ∃ o, σ[i]? = some o ∧ EvR K (hid G' s'.env (wipe σ vs) H') mu' H' o e := fun h => by
        obtain ⟨o, e1, e2⟩ := R.slots i _ h
        rw [wipe_out m] at e1
        exact ⟨o, e1, e2⟩
      rcases unlendE_get q with q3 | ⟨xs, rfl, q3⟩
      · obtain ⟨o, e1, e2⟩ := zz (q' q3)
        exact ⟨o, e1, EvR.mono t (fun _ _ _ _ => rfl) (fun _ _ z => z) e2⟩
      · obtain ⟨o, e1, e2⟩ := zz (q' q3)
        have e2 : EvR K _ mu' H' o (.own xs) := e2
        exact ⟨o, e1, EvR.mono t (fun _ _ _ _ => rfl) (fun _ _ z => z) e2⟩
/-- a hidden object of ours changes -/
theorem hid_upd {env : List EV} {p : Addr} {o : HO} (g : G p) : hid G env σ (upd H p o) = hid G env σ H := by
  funext a
  by_cases q : a = p
  · subst q
    unfold hid
    rw [msk_no (.inl g), msk_no (.inl g)]
  · unfold hid
    by_cases z : G a ∨ ownA env σ a
    · rw [msk_no z, msk_no z]
    · rw [msk_yes z, msk_yes z, upd_ne q]
theorem Rel.upG (R : Rel K G H0 mu0 mu s σ H) {p : Addr} (g : G p) (h0 : H0 p = none) (o : HO) : Rel K G H0 mu0 mu s σ (upd H p o) := by
  obtain ⟨p1, p2, p3⟩ := R.dom p g
  refine R.heap (fun a z => ⟨?_, (R.dom a z).2⟩) (by rw [hid_upd g]; exact Tm.refl) (fun a z => upd_ne fun q => p2 (q ▸ z)) (fun a z => upd_ne fun q => p3 (q ▸ z)) (fun a u e _ e2 => ?_)
  · by_cases q : a = p
    · subst q; rw [upd_same]; exact fun w => by cases w
    · rw [upd_ne q]; exact (R.dom a z).1
  · exact (upd_ne fun q => by rw [q, h0] at e; cases e).trans e2
theorem Nx.upG (nx : Nx K G H0 mu0 mu s σ H mu' s' σ' H') {p : Addr} (g : G p) (h0 : H0 p = none) (no : ¬ ownA s.env σ p) (o : HO) : Nx K G H0 mu0 mu s σ (upd H p o) mu' s' σ' (upd H' p o) := by
  refine ⟨nx.rel.upG g h0 o, nx.pre, ?_, fun a z => ?_, fun a z => ?_, fun i xs h => ?_⟩
  · rw [hid_upd g, hid_upd g]; exact nx.tm
  · by_cases q : a = p
    · subst q; rw [upd_same]; exact fun w => by cases w
    · rw [upd_ne q] at z ⊢; exact nx.dom a z
  · by_cases q : a = p
    · subst q; rw [upd_same, upd_same]
    · rw [upd_ne q, upd_ne q]; exact nx.gk a z
  · obtain ⟨h1, h2⟩ := nx.lk i xs h
    refine ⟨h1, fun a z => ?_⟩
    have q : a ≠ p := fun q => no (q ▸ ⟨i, xs, .inr h, z⟩)
    rw [upd_ne q, upd_ne q]
    exact h2 a z
theorem Nx.wiped (nx : Nx K G H0 mu0 mu s σ H mu' s' σ' H') {vs : List Nat} (hv : ∀ (i : Nat) (xs : List D), s.env[i]? = some (EV.lent xs) → i ∉ vs) : Nx K G H0 mu0 mu s σ H mu' { s' with env := wipeE s'.env vs } (wipe σ' vs) H' := by
  obtain ⟨R, t⟩ := nx.rel.wiped none vs
  refine ⟨R, nx.pre, nx.tm.trans t, nx.dom, nx.gk, fun i xs h => ?_⟩
  obtain ⟨h1, h2⟩ := nx.lk i xs h
  have m := hv i xs h
  refine ⟨?_, fun a z => ?_⟩
  · show (wipeE s'.env vs)[i]? = _
    rw [wipeE_out m]; exact h1
  · rw [wipe_out m]; exact h2 a z
end
def tTs (W : Xw) (K : Fg) (C : Cn) (cs : CEs) : TT := fun σ H Q => ∃ G H0 mu0 mu s, Rel K G H0 mu0 mu s σ H ∧ Post W K G H0 mu0 σ RvP mu s H (evTs C cs s) Q
section
variable {X : Cx} {W : Xw} {C : Cn} {N : Nm}
theorem PTs_imp {ifs : List Expr} {t t' : TT} (h : PTs X ifs t) (q : ∀ σ H Q, t' σ H Q → t σ H Q) : PTs X ifs t' := ⟨fun pins s σ H Q I z => h.run pins s σ H Q I (q σ H Q z)⟩
theorem ts_nil : PTs X [] (tTs W X.K C .nil) := PTs_imp pts_nil fun σ H Q ⟨G, H0, mu0, mu, s, R, h⟩ => h.pure (Rv := RvP) R rfl
theorem ts_one {c : CE} {e : Expr} (h : PT X e (tT W X.K C c)) : PTs X [e] (tTs W X.K C (.cons c .nil)) := PTs_imp (pts_one h) fun σ H Q ⟨G, H0, mu0, mu, s, R, h⟩ => ⟨G, H0, mu0, mu, s, R, by
  have e : evTs C (.cons c .nil) s = (ev C c s).tst := by
    show ((ev C c s).tst.bind fun k s1 => if k then O.ok true s1 else .ok false s1) = _
    cases (ev C c s).tst with
    | ok k s1 => cases k <;> rfl
    | exc _ _ _ => rfl
    | stuck => rfl
  rw [e] at h
  exact h⟩
/-- one turn's answer -/
def turnF (C : Cn) (tg : Tg) (vs : List Nat) (cond : CEs) (e : CE) : D → Sg → O (Option D) := fun x s2 => match setT tg x s2 with
  | none => .stuck
  | some s3 => (evTs C cond s3).bind fun k s4 => if k then (ev C e s4).bind fun r s5 => (s5.escD r).bind fun d s6 => .ok (some d) { s6 with env := wipeE s6.env vs } else .ok none { s4 with env := wipeE s4.env vs }
abbrev noW : Xw := fun _ _ _ _ _ _ _ _ _ => False
theorem tLc_of {it : CI} {tg : Tg} {vs : List Nat} {cond : CEs} {e : CE} (hv : tg.sl.all (vs.contains ·) = true) {σ : St} {H : Hp} {Q : VK} (h : tE W K C (.comp tg vs it cond e) σ H Q) : tLc (tI W K C it) (gT K tg) (tTs noW K C cond) (tE noW K C e) vs σ H Q := by
  obtain ⟨G, H0, mu0, mu, s, R, h⟩ := h
  rw [ev] at h
  refine ⟨G, H0, mu0, mu, s, R, (Post.bind (Rv := RvI K G σ) bkE h).imp fun J H1 ⟨p, mu1, s1, _, nx, rv, h⟩ => ?_⟩
  split at h
  · exact h.elim
  rename_i hlo
  have loose : ∀ i ∈ vs, looseAt s1.env i = true := by
    intro i m
    have : vs.all (looseAt s1.env) = true := by
      cases q : vs.all (looseAt s1.env) with
      | true => rfl
      | false => rw [q] at hlo; exact absurd rfl hlo
    exact List.all_eq_true.mp this i m
  have hvs : ∀ j ∈ tg.sl, j ∈ vs := fun j m => by
    have := List.all_eq_true.mp hv j m
    simpa using this
  clear hlo
  intro D hD
  have h : Post W K G H0 mu0 σ (RvE K G H0 mu0 σ) mu1 s1 H1 ((compL (turnF C tg vs cond e) p.1 [] { s1 with env := wipeE (lendE p.2 s1.env) vs }).bind fun ys s7 => .ok (.fresh ys) { s7 with env := unlendE p.2 (backE s1.env s7.env vs) }) Q := h
  have R1 := nx.rel
  obtain ⟨RL, tL⟩ := R1.wiped p.2 vs
  generalize hsL : ({ s1 with env := wipeE (lendE p.2 s1.env) vs } : Sg) = sL at h RL
  have hEL : sL.env = wipeE (lendE p.2 s1.env) vs := by rw [← hsL]
  have hD0 := R1.h0 hD
  have noL : ∀ {o : HO}, Rel K (add1 G D) H0 mu0 mu1 sL (wipe σ vs) (upd H1 D o) := fun {o} => RL.new1 hD
  have gD : add1 G D D := .inr rfl
  have nown : ¬ ownA sL.env (wipe σ vs) D := RL.noOwn hD
  have lentV : ∀ (i : Nat) (xs : List PyData), sL.env[i]? = some (EV.lent xs) → i ∉ vs := fun i xs q m => by
    rw [hEL] at q
    have hi : i < (lendE p.2 s1.env).length := by
      have := (List.getElem?_eq_some_iff.mp q).1
      rwa [wipeE_len] at this
    rw [wipeE_in hi m] at q
    cases q
  have lentL : ∀ (i : Nat) (xs : List PyData), s1.env[i]? = some (EV.lent xs) → sL.env[i]? = some (EV.lent xs) ∧ i ∉ vs := fun i xs q => by
    have m : i ∉ vs := fun m => by
      obtain ⟨e', q', n⟩ := looseAt_ok (loose i m)
      rw [q] at q'
      exact (n xs).2 (Option.some.inj q').symm
    exact ⟨by rw [hEL, wipeE_out m]; exact lendE_lent q, m⟩
  have lentP : ∀ (i : Nat), p.2 = some i → ∃ xs, sL.env[i]? = some (EV.lent xs) ∧ i ∉ vs := fun i q => by
    obtain ⟨xs, q1⟩ := rv.1 i q
    have m : i ∉ vs := fun m => by
      obtain ⟨e', q', n⟩ := looseAt_ok (loose i m)
      rw [q1] at q'
      exact (n xs).1 (Option.some.inj q').symm
    refine ⟨xs, ?_, m⟩
    rw [hEL, wipeE_out m, q]
    exact lendE_self q1
  refine ⟨fun i m H => m = p.1.length - i ∧ i ≤ p.1.length ∧ ∃ accV acc mu' s', H D = some (.lst accV) ∧ Nx K (add1 G D) H0 mu0 mu1 sL (wipe σ vs) (upd H1 D (.lst accV)) mu' s' (wipe σ vs) H ∧ DpAll K (hid (add1 G D) s'.env (wipe σ vs) H) accV acc ∧
    compL (turnF C tg vs cond e) p.1 [] sL = compL (turnF C tg vs cond e) (p.1.drop i) acc s', ⟨_, rfl, Nat.zero_le _, [], [], mu1, sL, upd_same, .refl noL, .nil, rfl⟩, ?_⟩
  rintro i m Hi ⟨rfl, hi, accV, acc, mu', s', eD, nx', da, ec⟩
  rw [ec] at h
  -- the walk still stands
  have tW : Tm (hid G s1.env σ H1) (hid (add1 G D) s'.env (wipe σ vs) Hi) := by
    refine (tL.trans ?_).trans nx'.tm
    rw [← hEL]
    exact tm_new hD
  have wk : Wlk K J p.1 (hid (add1 G D) s'.env (wipe σ vs) Hi) Hi := by
    refine rv.2 _ _ tW hid_le fun j a z q => ?_
    have : ∃ xs, sL.env[j]? = some (EV.lent xs) ∧ j ∉ vs := by
      rcases z with z | ⟨xs, z⟩
      · exact lentP j z
      · exact ⟨xs, lentL j xs z⟩
    obtain ⟨xs, q1, q2⟩ := this
    have := ((nx'.lk j xs q1).2 a (by rw [wipe_out q2]; exact q)).2
    rw [this]
    exact upd_ne fun w => nown (w ▸ ⟨j, xs, .inr q1, by rw [wipe_out q2]; exact q⟩)
  by_cases hlt : i < p.1.length
  · -- a turn
    refine .inr ?_
    obtain ⟨d, hd⟩ : ∃ d, p.1[i]? = some d := ⟨_, List.getElem?_eq_getElem hlt⟩
    have hdrop : p.1.drop i = d :: p.1.drop (i + 1) := by
      rw [List.drop_eq_getElem_cons hlt]
      congr 1
      rw [List.getElem?_eq_getElem hlt] at hd
      exact Option.some.inj hd
    rw [hdrop] at h ec
    obtain ⟨go, yl⟩ := wk.go i d hd
    refine ⟨go, _, fun H' z => ⟨_, Nat.sub_lt_sub_left hlt (Nat.lt_succ_self i), rfl, hlt, z⟩, fun x H' y => ?_⟩
    obtain ⟨nx1, rx⟩ := RO.nx nx'.rel (yl x H' y)
    have rx : Dp K (hid (add1 G D) s'.env (wipe σ vs) H') x d := rx
    have cz : compL (turnF C tg vs cond e) (d :: p.1.drop (i + 1)) acc s' = match turnF C tg vs cond e d s' with
        | .ok none s1 => compL (turnF C tg vs cond e) (p.1.drop (i + 1)) acc s1
        | .ok (some d) s1 => if acc.length < lim then compL (turnF C tg vs cond e) (p.1.drop (i + 1)) (acc ++ [d]) s1 else .stuck
        | _ => .stuck := rfl
    rw [cz] at h ec
    have tz : turnF C tg vs cond e d s' = match setT tg d s' with
        | none => .stuck
        | some s3 => (evTs C cond s3).bind fun k s4 => if k then (ev C e s4).bind fun r s5 => (s5.escD r).bind fun d s6 => .ok (some d) { s6 with env := wipeE s6.env vs } else .ok none { s4 with env := wipeE s4.env vs } := rfl
    rw [tz] at h ec
    cases es : setT tg d s' with
    | none => rw [es] at h; exact h.elim
    | some s3 =>
      rw [es] at h ec
      dsimp only at h ec
      refine ⟨add1 G D, H0, mu0, mu', s', d, s3, nx1.rel, rx, es, fun σ2 nx2 sl => ⟨?_, ?_⟩⟩
      · have := wipe_eq (vs := vs) sl.len fun j hj => sl.at_ j fun q => hj (hvs j q)
        rw [this]
        exact wipe_eq (wipe_length _ _) fun j hj => wipe_out hj
      have wσ : wipe σ2 vs = wipe σ vs := by
        have := wipe_eq (vs := vs) sl.len fun j hj => sl.at_ j fun q => hj (hvs j q)
        rw [this]
        exact wipe_eq (wipe_length _ _) fun j hj => wipe_out hj
      refine ⟨add1 G D, H0, mu0, mu', s3, nx2.rel, ?_⟩
      cases e4 : evTs C cond s3 with
      | stuck => rw [e4] at h; exact h.elim
      | exc c fs s4 => rw [e4] at h; exact h.elim
      | ok k s4 =>
        rw [e4] at h ec
        intro b mu4 H3 nx4 rb
        have rb : b = k := rb
        subst rb
        have nA := ((nx'.trans nx1).trans nx2).trans nx4
        cases b with
        | false =>
          rw [if_neg Bool.false_ne_true]
          simp only [O.bind, Bool.false_eq_true, if_false] at ec
          have nW := nA.wiped lentV
          rw [wσ] at nW
          have tt := (((nx1.trans nx2).trans nx4).wiped (vs := vs) (fun j xs q => ?_)).tm
          · rw [wσ] at tt
            exact ⟨accV, acc, mu4, _, by rw [nA.gk D gD, upd_same], nW, daT tt da, ec⟩
          · -- lent slots of s' are no names of the block
            intro mm
            have hjl : j < σ.length := by
              have h1 := (List.getElem?_eq_some_iff.mp q).1
              rw [nx'.rel.len, wipe_length] at h1
              exact h1
            obtain ⟨o, z1, a, ws, z2, _⟩ := nx'.rel.slots j _ q
            rw [wipe_in hjl mm] at z1
            cases z1
            cases z2
        | true =>
          rw [if_pos rfl]
          simp only [O.bind, if_true] at ec h
          refine ⟨add1 G D, H0, mu0, mu4, s4, nx4.rel, ?_⟩
          cases e5 : ev C e s4 with
          | stuck => rw [e5] at h; exact h.elim
          | exc c fs s5 => rw [e5] at h; exact h.elim
          | ok r s5 =>
            rw [e5] at h ec
            intro y' mu5 H4 nx5 ry
            simp only at h ec
            cases e6 : s5.escD r with
            | stuck => rw [e6] at h; exact h.elim
            | exc c fs s6 => rw [e6] at h; exact h.elim
            | ok d' s6 =>
              rw [e6] at h ec
              simp only at h ec
              obtain ⟨nx6, dp⟩ := escD_nx nx5.rel ry.w e6
              have nB := (nA.trans nx5).trans nx6
              have eD4 : H4 D = some (.lst accV) := by rw [nB.gk D gD, upd_same]
              by_cases hlim : acc.length < lim
              · rw [if_pos hlim] at ec
                have nW := nB.wiped lentV
                rw [wσ] at nW
                have nU := nW.upG gD hD0 nown (.lst (accV ++ [y']))
                have lv : ∀ (j : Nat) (xs : List PyData), s'.env[j]? = some (EV.lent xs) → j ∉ vs := fun j xs q mm => by
                  have hjl : j < σ.length := by
                    have h1 := (List.getElem?_eq_some_iff.mp q).1
                    rw [nx'.rel.len, wipe_length] at h1
                    exact h1
                  obtain ⟨o, z1, a, ws, z2, _⟩ := nx'.rel.slots j _ q
                  rw [wipe_in hjl mm] at z1
                  cases z1
                  cases z2
                have nC := ((((nx1.trans nx2).trans nx4).trans nx5).trans nx6).wiped (vs := vs) lv
                have tt := nC.tm
                rw [wσ] at tt
                obtain ⟨RW, tw⟩ := nx6.rel.wiped none vs
                have tw : Tm (hid (add1 G D) s6.env σ2 H4) (hid (add1 G D) (wipeE s6.env vs) (wipe σ2 vs) H4) := tw
                rw [wσ] at tw
                refine ⟨accV, eD4, by rw [daLen da]; exact hlim, accV ++ [y'], acc ++ [d'], mu5, _, upd_same, ?_, ?_, ec⟩
                · have e9 : upd (upd H1 D (HO.lst accV)) D (.lst (accV ++ [y'])) = upd H1 D (.lst (accV ++ [y'])) := by
                    funext a
                    by_cases q : a = D
                    · subst q; rw [upd_same, upd_same]
                    · rw [upd_ne q, upd_ne q, upd_ne q]
                  rw [e9] at nU
                  exact nU
                · rw [hid_upd gD]
                  exact daApp (daT tt da) (daOne (dpT tw dp))
              · rw [if_neg hlim] at h; exact h.elim
  · -- the end
    have e' : i = p.1.length := by omega
    subst e'
    refine .inl ⟨wk.stop, ?_⟩
    rw [List.drop_length] at h
    have h : Post W K G H0 mu0 σ (RvE K G H0 mu0 σ) mu1 s1 H1 (.ok (.fresh acc) { s' with env := unlendE p.2 (backE s1.env s'.env vs) }) Q := h
    obtain ⟨RF, tF⟩ := R1.backed nx'.rel p.2 loose tW fun n a q => nx'.muN q
    have nD : ∀ a, H1 a ≠ none → a ≠ D := fun a z q => z (q ▸ hD)
    refine h (.ref D) mu' Hi ⟨RF.less fun _ z => .inl z, nx'.pre, (tW.trans tF).trans (hid_mono fun _ z => .inl z), fun a z => nx'.dom a (by rw [upd_ne (nD a z)]; exact z), fun a z => ?_, fun j xs q => ?_⟩ ⟨D, accV, rfl, hD, eD, fun z => R1.noG hD z, daT tF da, RF⟩
    · rw [nx'.gk a (.inl z)]
      exact upd_ne (nD a (R1.dom a z).1)
    · obtain ⟨q1, q2⟩ := lentL j xs q
      obtain ⟨q3, q4⟩ := nx'.lk j xs q1
      refine ⟨?_, fun a z => ⟨z, ?_⟩⟩
      · refine unlendE_lent (fun w => ?_) ?_
        · obtain ⟨ys, q5⟩ := rv.1 j w
          rw [q] at q5; cases q5
        · rw [backE_out q2]; exact q3
      · rw [(q4 a (by rw [wipe_out q2]; exact z)).2]
        exact upd_ne fun w => nown (w ▸ ⟨j, xs, .inr q1, by rw [wipe_out q2]; exact z⟩)
end
end Pur
end
section
set_option Elab.async false
set_option linter.all false
set_option maxHeartbeats 1000000
namespace Pur
open PySem PySem.Spec L2
/-! ### values that wait for their names -/
def plus (G : Addr → Prop) (F : List Addr) : Addr → Prop := fun a => G a ∨ a ∈ F
section
variable {W : Xw} {K : Fg} {G G' G1 : Addr → Prop} {H0 H H' H1 H2 Hb : Hp} {mu0 mu mu' mu1 mu2 muS : List Addr} {s s' s1 s2 sS : Sg} {σ σ' σ1 σ2 σS : St} {v : V} {F : List Addr}
theorem tm_plus (t : Tm (hid G s.env σ H) (hid G s1.env σ1 H1)) (hF : ∀ a, G1 a → G a ∨ H a = none) : Tm (hid G s.env σ H) (hid G1 s1.env σ1 H1) := fun a o e n => by
  obtain ⟨g, _, e0⟩ := hid_some e
  obtain ⟨_, w, e1⟩ := hid_some (t a o e n)
  refine (hid_yes (fun z => ?_) w).trans e1
  rcases hF a z with z | z
  · exact g z
  · rw [e0] at z; cases z
/-- something new of ours was hidden on the way -/
theorem Nx.under (nx : Nx K G H0 mu0 mu s σ H mu1 s1 σ1 H1) (hG : ∀ a, G a → G1 a) (hF : ∀ a, G1 a → G a ∨ H a = none) (nx2 : Nx K G1 H0 mu0 mu1 s1 σ1 H1 mu2 s2 σ2 H2) : Nx K G H0 mu0 mu s σ H mu2 s2 σ2 H2 := by
  refine ⟨nx2.rel.less hG, ?_, ((tm_plus nx.tm hF).trans nx2.tm).trans (hid_mono hG), fun c h => nx2.dom c (nx.dom c h), fun c h => (nx2.gk c (hG c h)).trans (nx.gk c h), fun i xs h => ?_⟩
  · obtain ⟨m, e⟩ := nx.pre
    obtain ⟨n, e'⟩ := nx2.pre
    exact ⟨m ++ n, by rw [e', e, List.append_assoc]⟩
  · obtain ⟨h1, h2⟩ := nx.lk i xs h
    obtain ⟨h3, h4⟩ := nx2.lk i xs h1
    exact ⟨h3, fun c z => let ⟨z1, z2⟩ := h2 c z; let ⟨z3, z4⟩ := h4 c z1; ⟨z3, z4.trans z2⟩⟩
def Its (K : Fg) (M H : Hp) (mu : List Addr) : List RV → List V → List Addr → Prop
  | [], vs, F => vs = [] ∧ F = []
  | .fresh xs :: rs, vs, F => ∃ a ws vs' F', vs = .ref a :: vs' ∧ F = a :: F' ∧ H a = some (.lst ws) ∧ DpAll K M ws xs ∧ Its K M H mu rs vs' F'
  | .dat d :: rs, vs, F => ∃ v vs', vs = v :: vs' ∧ Dp K M v d ∧ Its K M H mu rs vs' F
  | .loc n :: rs, vs, F => ∃ a vs', vs = .ref a :: vs' ∧ mu[n]? = some a ∧ Its K M H mu rs vs' F
  | .slot _ :: _, _, _ => False
theorem Its.tm {M M' : Hp} (t : Tm M M') : ∀ {rs : List RV} {vs : List V} {F : List Addr}, Its K M H mu rs vs F → Its K M' H mu rs vs F
  | [], _, _, h => h
  | .fresh xs :: rs, _, _, ⟨a, ws, vs', F', e1, e2, e3, e4, e5⟩ => ⟨a, ws, vs', F', e1, e2, e3, daT t e4, Its.tm t e5⟩
  | .dat d :: rs, _, _, ⟨v, vs', e1, e2, e3⟩ => ⟨v, vs', e1, dpT t e2, Its.tm t e3⟩
  | .loc n :: rs, _, _, ⟨a, vs', e1, e2, e3⟩ => ⟨a, vs', e1, e2, Its.tm t e3⟩
  | .slot _ :: _, _, _, h => h
theorem Its.len {M : Hp} : ∀ {rs : List RV} {vs : List V} {F : List Addr}, Its K M H mu rs vs F → vs.length = rs.length
  | [], _, _, h => by rw [h.1]; rfl
  | .fresh xs :: rs, _, _, ⟨a, ws, vs', F', e1, e2, e3, e4, e5⟩ => by rw [e1, List.length_cons, List.length_cons, Its.len e5]
  | .dat d :: rs, _, _, ⟨v, vs', e1, e2, e3⟩ => by rw [e1, List.length_cons, List.length_cons, Its.len e3]
  | .loc n :: rs, _, _, ⟨a, vs', e1, e2, e3⟩ => by rw [e1, List.length_cons, List.length_cons, Its.len e3]
  | .slot _ :: _, _, _, h => h.elim
/-- values wait; the statement began at sS -/
structure Pd (K : Fg) (G : Addr → Prop) (H0 : Hp) (mu0 muS : List Addr) (sS : Sg) (σS : St) (HS : Hp) (F mu : List Addr) (s : Sg) (σ : St) (H : Hp) (rs : List RV) (vs : List V) : Prop where
  nx : Nx K G H0 mu0 muS sS σS HS mu s σ H
  nd : F.Nodup
  nw : ∀ a ∈ F, HS a = none ∧ ¬ G a
  rel : Rel K (plus G F) H0 mu0 mu s σ H
  its : Its K (hid (plus G F) s.env σ H) H mu rs vs F
  h0 : ∀ a ∈ F, H0 a = none
/-- a list of one's own comes into a slot -/
theorem Pd.own {HS : Hp} {xs : List D} {rs : List RV} {vs : List V} {i : Nat} (P : Pd K G H0 mu0 muS sS σS HS F mu s σ H (.fresh xs :: rs) (v :: vs)) (hf : freeAt s.env i = true) :
    ∃ F', Pd K G H0 mu0 muS sS σS HS F' mu { s with env := s.env.set i (.own xs) } (σ.set i (some v)) H rs vs := by
  obtain ⟨a, ws, vs', F', e1, rfl, hl, da, it⟩ := P.its
  cases e1
  have R := P.rel
  obtain ⟨e, he, ne⟩ := freeAt_ok hf
  obtain ⟨hi, _⟩ := List.getElem?_eq_some_iff.mp he
  have hi' : i < σ.length := by rw [← R.len]; exact hi
  have aF : plus G (a :: F') a := .inr List.mem_cons_self
  obtain ⟨a1, a2, a3⟩ := R.dom a aF
  have nd := P.nd
  rw [List.nodup_cons] at nd
  have at_ : ∀ {j ys}, OwnAt (s.env.set i (.own xs)) j ys → j = i ∨ (j ≠ i ∧ OwnAt s.env j ys) := fun {j ys} h => by
    by_cases q : i = j
    · exact .inl q.symm
    · unfold OwnAt at h
      rw [List.getElem?_set_ne q] at h
      exact .inr ⟨fun z => q z.symm, h⟩
  have sg : ∀ {j : Nat}, j ≠ i → (σ.set i (some (V.ref a)))[j]? = σ[j]? := fun h => List.getElem?_set_ne fun z => h z.symm
  have si : (σ.set i (some (V.ref a)))[i]? = some (some (V.ref a)) := List.getElem?_set_self hi'
  have sub : ∀ b, ownA (s.env.set i (.own xs)) (σ.set i (some (V.ref a))) b → ownA s.env σ b ∨ b = a := fun b ⟨j, ys, h, z⟩ => by
    rcases at_ h with q | ⟨n, h⟩
    · subst q; rw [si] at z; cases z; exact .inr rfl
    · rw [sg n] at z; exact .inl ⟨j, ys, h, z⟩
  -- what one sees beside the waiting ones
  have t : Tm (hid (plus G (a :: F')) s.env σ H) (hid (plus G F') (s.env.set i (.own xs)) (σ.set i (some (V.ref a))) H) := Tm.msk fun b z => by
    rcases z with (z | z) | z
    · exact .inl (.inl z)
    · exact .inl (.inr (List.mem_cons_of_mem _ z))
    · rcases sub b z with z | z
      · exact .inr z
      · exact .inl (z ▸ aF)
  have R' : Rel K (plus G F') H0 mu0 mu { s with env := s.env.set i (.own xs) } (σ.set i (some (V.ref a))) H := by
    refine ⟨?_, fun j ev q => ?_, fun j k ys zs b h1 h2 z1 z2 => ?_, R.stl, fun n kvs b q1 q2 => ?_, R.nd, fun b z => ?_, R.ext, fun b z => ?_, R.pre⟩
    · show (s.env.set i _).length = _
      rw [List.length_set, List.length_set]; exact R.len
    · by_cases hj : i = j
      · subst hj
        have q : (s.env.set i (.own xs))[i]? = some ev := q
        rw [List.getElem?_set_self hi] at q
        cases q
        exact ⟨_, si, a, ws, rfl, hl, daT t da⟩
      · have q : (s.env.set i (.own xs))[j]? = some ev := q
        rw [List.getElem?_set_ne hj] at q
        obtain ⟨o, q1, q2⟩ := R.slots j ev q
        exact ⟨o, (sg fun z => hj z.symm).trans q1, EvR.mono t (fun _ _ _ _ => rfl) (fun _ _ z => z) q2⟩
    · rcases at_ h1 with q1 | ⟨n1, g1⟩
      · rcases at_ h2 with q2 | ⟨n2, g2⟩
        · rw [q1, q2]
        · subst q1
          rw [si] at z1; cases z1
          rw [sg n2] at z2
          exact (a2 ⟨k, zs, g2, z2⟩).elim
      · rcases at_ h2 with q2 | ⟨n2, g2⟩
        · subst q2
          rw [si] at z2; cases z2
          rw [sg n1] at z1
          exact (a2 ⟨j, ys, g1, z1⟩).elim
        · rw [sg n1] at z1
          rw [sg n2] at z2
          exact R.inj j k ys zs b g1 g2 z1 z2
    · obtain ⟨us, h1, h2⟩ := R.sto n kvs b q1 q2
      exact ⟨us, h1, KvR.tm t h2⟩
    · have z' : plus G (a :: F') b := z.elim .inl fun z => .inr (List.mem_cons_of_mem _ z)
      obtain ⟨b1, b2, b3⟩ := R.dom b z'
      refine ⟨b1, fun w => ?_, b3⟩
      rcases sub b w with w | w
      · exact b2 w
      · subst w
        rcases z with z | z
        · exact (P.nw b List.mem_cons_self).2 z
        · exact nd.1 z
    · rcases sub b z with z | z
      · exact R.new b z
      · subst z; exact P.h0 b List.mem_cons_self
  refine ⟨F', ⟨⟨R'.less fun _ z => .inl z, P.nx.pre, ?_, P.nx.dom, P.nx.gk, fun j ys h => ?_⟩, nd.2, fun b hb => P.nw b (List.mem_cons_of_mem _ hb), R', Its.tm t it, fun b hb => P.h0 b (List.mem_cons_of_mem _ hb)⟩⟩
  · have t1 : Tm (hid G sS.env σS HS) (hid (plus G (a :: F')) s.env σ H) := tm_plus P.nx.tm fun b z => z.elim .inl fun z => .inr (P.nw b z).1
    exact (t1.trans t).trans (hid_mono fun _ z => .inl z)
  · obtain ⟨h1, h2⟩ := P.nx.lk j ys h
    have hj : j ≠ i := fun q => by
      rw [q, he] at h1
      exact ne ys (Option.some.inj h1)
    refine ⟨(List.getElem?_set_ne fun z => hj z.symm).trans h1, fun c z => ?_⟩
    rw [sg hj]
    exact h2 c z
/-- a step among the waiting values -/
theorem Pd.step {HS : Hp} {rs : List RV} {vs : List V} {r : RV} (P : Pd K G H0 mu0 muS sS σS HS F mu s σ H (r :: rs) (v :: vs)) (hr : ∀ xs, r ≠ .fresh xs) (nx : Nx K (plus G F) H0 mu0 mu s σ H mu s1 σ1 H) : Pd K G H0 mu0 muS sS σS HS F mu s1 σ1 H rs vs := by
  have it := P.its
  have it' : Its K (hid (plus G F) s.env σ H) H mu rs vs F := by
    cases r with
    | fresh xs => exact absurd rfl (hr xs)
    | slot _ => exact it.elim
    | dat d => obtain ⟨_, _, e1, _, e3⟩ := it; cases e1; exact e3
    | loc d => obtain ⟨_, _, e1, _, e3⟩ := it; cases e1; exact e3
  exact ⟨P.nx.under (fun _ z => .inl z) (fun a z => z.elim .inl fun z => .inr (P.nw a z).1) nx, P.nd, P.nw, nx.rel, Its.tm nx.tm it', P.h0⟩
/-- a value gets a name -/
theorem Pd.name {HS : Hp} {rs : List RV} {vs : List V} {r : RV} {i : Nat} (P : Pd K G H0 mu0 muS sS σS HS F mu s σ H (r :: rs) (v :: vs)) (e : setR (.nm i) r s = .ok () s1) : ∃ F', Pd K G H0 mu0 muS sS σS HS F' mu s1 (σ.set i (some v)) H rs vs := by
  have it := P.its
  cases r with
  | slot _ => exact it.elim
  | fresh xs =>
    rw [setR] at e
    split at e
    · rename_i hf
      cases e
      exact P.own hf
    · cases e
  | loc n =>
    rw [setR] at e
    split at e
    · rename_i hf
      cases e
      obtain ⟨a, _, e1, e2, _⟩ := it
      cases e1
      exact ⟨F, P.step (fun _ z => by cases z) (P.rel.store hf (fun xs => ⟨(fun z => by cases z), (fun z => by cases z)⟩) fun M t => ⟨a, rfl, e2⟩)⟩
    · cases e
  | dat d =>
    have e : setR (.nm i) (.dat d) s = .ok () s1 := e
    have e : (match setT (.nm i) d s with | some s2 => O.ok () s2 | none => .stuck) = .ok () s1 := e
    rw [setT] at e
    by_cases hf : freeAt s.env i = true
    · rw [if_pos hf] at e
      cases e
      obtain ⟨w, _, e1, e2, _⟩ := it
      cases e1
      exact ⟨F, P.step (fun _ z => by cases z) (P.rel.store hf (fun xs => ⟨(fun z => by cases z), (fun z => by cases z)⟩) fun M t => ⟨_, rfl, dpT t e2⟩)⟩
    · rw [if_neg hf] at e; cases e
/-- a value is taken apart -/
theorem Pd.tup {HS : Hp} {rs : List RV} {vs : List V} {r : RV} {ts : Tgs} (P : Pd K G H0 mu0 muS sS σS HS F mu s σ H (r :: rs) (v :: vs)) (e : setR (.tup ts) r s = .ok () s1) :
    ∃ d, Dp K (hid (plus G F) s.env σ H) v d ∧ setT (.tup ts) d s = some s1 ∧ ∀ σ', Nx K (plus G F) H0 mu0 mu s σ H mu s1 σ' H → Pd K G H0 mu0 muS sS σS HS F mu s1 σ' H rs vs := by
  have it := P.its
  cases r with
  | slot _ => exact it.elim
  | fresh xs =>
    have e : (match setT (.tup ts) (.list xs) s with | some s2 => O.ok () s2 | none => .stuck) = .ok () s1 := e
    rw [setT] at e
    · cases e
    · intro _ z; cases z
  | loc n => cases e
  | dat d =>
    have e : (match setT (.tup ts) d s with | some s2 => O.ok () s2 | none => .stuck) = .ok () s1 := e
    obtain ⟨w, _, e1, e2, _⟩ := it
    cases e1
    refine ⟨d, e2, ?_, fun σ' nx => P.step (fun _ z => by cases z) nx⟩
    split at e
    · rename_i s2 q; cases e; exact q
    · cases e
end
/-- several stores of waiting values -/
def gRs (K : Fg) (ts : Tgs) : TGs := fun vs σ H Q => ∃ G H0 mu0 muS sS σS HS F mu s rs s', Pd K G H0 mu0 muS sS σS HS F mu s σ H rs vs ∧ setRs ts rs s = .ok () s' ∧ ∀ mu' σ' H', Nx K G H0 mu0 muS sS σS HS mu' s' σ' H' → Q σ' H'
def gR (K : Fg) (t : Tg) : TG := fun v σ H Q => gRs K (.cons t .nil) [v] σ H Q
section
variable {X : Cx} {W : Xw} {C : Cn} {N : Nm}
theorem setRs_nil {K : Fg} {vs : List V} {σ : St} {H : Hp} {Q : St → Hp → Prop} (h : gRs K .nil vs σ H Q) : vs = [] ∧ Q σ H := by
  obtain ⟨G, H0, mu0, muS, sS, σS, HS, F, mu, s, rs, s', P, e, q⟩ := h
  cases rs with
  | cons _ _ => cases e
  | nil =>
    have := P.its
    cases e
    exact ⟨this.1, q mu σ H P.nx⟩
/-- the first of several stores -/
theorem gRs_split {K : Fg} {t : Tg} {ts : Tgs} {vs : List V} {σ : St} {H : Hp} {Q : St → Hp → Prop} (h : gRs K (.cons t ts) vs σ H Q) : ∃ v us, vs = v :: us ∧
    match t with
    | .nm i => gRs K ts us (σ.set i (some v)) H Q
    | .tup tt => gT K (.tup tt) v σ H fun σ' H' => gRs K ts us σ' H' Q := by
  obtain ⟨G, H0, mu0, muS, sS, σS, HS, F, mu, s, rs, s', P, e, q⟩ := h
  cases rs with
  | nil => cases e
  | cons r rs =>
    have hl := P.its.len
    cases vs with
    | nil => simp at hl
    | cons v us =>
      refine ⟨v, us, rfl, ?_⟩
      rw [setRs] at e
      cases e1 : setR t r s with
      | stuck => rw [e1] at e; cases e
      | exc c fs s1 => rw [e1] at e; cases e
      | ok u s1 =>
        rw [e1] at e
        have e9 : setRs ts rs s1 = .ok () s' := e
        clear e
        cases t with
        | nm i =>
          obtain ⟨F', P'⟩ := P.name e1
          exact ⟨G, H0, mu0, muS, sS, σS, HS, F', mu, s1, rs, s', P', e9, q⟩
        | tup tt =>
          obtain ⟨d, d1, d2, d3⟩ := P.tup e1
          exact ⟨_, H0, mu0, mu, s, d, s1, P.rel, d1, d2, fun σ' nx _ => ⟨G, H0, mu0, muS, sS, σS, HS, F, mu, s1, rs, s', d3 σ' nx, e9, q⟩⟩
theorem pgrs_of (ok : XOk X W C N) : ∀ (ts : Tgs) (es : List Expr), chkTs ts N es = true → PGs X es (gRs X.K ts)
  | .nil, [], h => PGs_imp pgs_nil fun vs σ H Q z => setRs_nil z
  | .cons t ts, e :: es, h => by
    unfold chkTs at h
    rw [Bool.and_eq_true] at h
    have st : (assignEach (e :: es) X.env).map (·.2) = assign e X.env :: (assignEach es X.env).map (·.2) := by rw [asgEach_cons (chkT_star h.1)]; rfl
    have ih := pgrs_of ok ts es h.2
    cases t with
    | nm i =>
      cases e with
      | Name x pos =>
        have h1 := h.1
        unfold chkT at h1
        rw [Bool.and_eq_true, decide_eq_true_eq] at h1
        obtain ⟨l1, l2⟩ := ok.st x h1.2
        exact PGs_imp (pgs_cons (pg_name ok.nd (by rw [ok.nm]; exact h1.1) l1 l2) ih st) fun vs σ H Q z => by
          obtain ⟨v, us, rfl, z⟩ := gRs_split z
          exact ⟨v, us, rfl, z⟩
      | _ => exact absurd h.1 (by simp [chkT])
    | tup tt =>
      exact PGs_imp (pgs_cons (pg_of ok (.tup tt) e h.1) ih st) fun vs σ H Q z => by
        obtain ⟨v, us, rfl, z⟩ := gRs_split z
        exact ⟨v, us, rfl, z⟩
theorem pgr_of (ok : XOk X W C N) (t : Tg) (e : Expr) (h : chkT t N e = true) : PG X e (gR X.K t) := by
  cases t with
  | nm i =>
    cases e with
    | Name x pos =>
      unfold chkT at h
      rw [Bool.and_eq_true, decide_eq_true_eq] at h
      obtain ⟨l1, l2⟩ := ok.st x h.2
      refine PG_imp (pg_name ok.nd (by rw [ok.nm]; exact h.1) l1 l2) fun v σ H Q z => ?_
      obtain ⟨v', us, e1, z⟩ := gRs_split z
      cases e1
      exact (setRs_nil z).2
    | _ => exact absurd h (by simp [chkT])
  | tup tt =>
    refine PG_imp (pg_of ok (.tup tt) e h) fun v σ H Q z => ?_
    obtain ⟨v', us, e1, z⟩ := gRs_split z
    cases e1
    obtain ⟨G, H0, mu0, mu, s, d, s', R, dv, es, q⟩ := z
    exact ⟨G, H0, mu0, mu, s, d, s', R, dv, es, fun σ' nx sl => (setRs_nil (q σ' nx sl)).2⟩
end
end Pur
end
section
set_option Elab.async false
set_option linter.all false
set_option maxHeartbeats 1000000
namespace Pur
open PySem PySem.Spec L2
section
variable {K : Fg} {G G' G1 : Addr → Prop} {H0 H H' H1 H2 Hb : Hp} {mu0 mu mu' mu1 mu2 muS : List Addr} {s s' s1 s2 sS : Sg} {σ σ' σ1 σ2 σS : St} {v : V} {F : List Addr}
/-- values that wait -/
def RvPs (K : Fg) (G : Addr → Prop) (H0 : Hp) (mu0 : List Addr) (σ : St) : Rvt (List RV) (List V) := fun Hb mu s H rs vs => ∃ F, F.Nodup ∧ (∀ a ∈ F, Hb a = none ∧ ¬ G a) ∧ Rel K (plus G F) H0 mu0 mu s σ H ∧ Its K (hid (plus G F) s.env σ H) H mu rs vs F
theorem bkPs {σ : St} : Bk (RvPs K G H0 mu0 σ) := fun Hb Hc mu s H rs vs d ⟨F, h1, h2, h3⟩ => ⟨F, h1, fun a z => ⟨by
  cases q : Hc a with
  | none => rfl
  | some u => exact absurd (h2 a z).1 (d a (by rw [q]; exact fun w => by cases w)), (h2 a z).2⟩, h3⟩
end
def tPs (W : Xw) (K : Fg) (C : Cn) (cs : CEs) : TA := fun σ H Q => ∃ G H0 mu0 mu s, Rel K G H0 mu0 mu s σ H ∧ Post W K G H0 mu0 σ (RvPs K G H0 mu0 σ) mu s H (evPs C cs s) Q
section
variable {X : Cx} {W : Xw} {C : Cn} {N : Nm}
theorem ps_nilv : PA X [] (tPs W X.K C .nil) := PA_imp pa_nil fun σ H Q ⟨G, H0, mu0, mu, s, R, h⟩ => by
  refine h [] mu H (.refl R) ⟨[], List.nodup_nil, fun a z => absurd z (by simp), R.less fun a z => z.elim (fun z => z) fun z => absurd z (by simp), rfl, rfl⟩
theorem ps_consv (ok : XOk X W C N) {c : CE} {cs : CEs} {e : Expr} {es : List Expr} (he : PE X e (tE W X.K C c)) (hs : PA X es (tPs W X.K C cs)) (hn : noStar e = true) : PA X (e :: es) (tPs W X.K C (.cons c cs)) := by
  refine PA_imp (pa_cons he hs (star_cons hn)) fun σ H Q ⟨G, H0, mu0, mu, s, R, h⟩ => ⟨G, H0, mu0, mu, s, R, ?_⟩
  rw [evPs] at h
  cases em : ev C c s with
  | stuck => rw [em] at h; exact h.elim
  | exc cc fs s1 => rw [em] at h; exact h
  | ok r s1 =>
    rw [em] at h
    intro v mu1 H1 nx rv
    -- what is no new list
    have other : (∀ xs, r ≠ .fresh xs) → tPs W X.K C cs σ H1 fun vs H2 => Q (v :: vs) H2 := fun hr => by
      have h : Post W X.K G H0 mu0 σ (RvPs X.K G H0 mu0 σ) mu s H ((s1.esc r).bind fun q s2 => (evPs C cs s2).bind fun qs s3 => .ok (q :: qs) s3) Q := by
        cases r with
        | fresh xs => exact absurd rfl (hr xs)
        | dat _ => exact h
        | slot _ => exact h
        | loc _ => exact h
      cases e1 : s1.esc r with
      | stuck => rw [e1] at h; exact h.elim
      | exc cc fs s2 => exact (esc_noexc e1).elim
      | ok q s2 =>
        rw [e1] at h
        change Post _ _ _ _ _ _ _ _ _ _ ((evPs C cs s2).bind _) _ at h
        obtain ⟨nx2, w⟩ := esc_nx nx.rel rv.w e1
        refine ⟨G, H0, mu0, mu1, s2, nx2.rel, ?_⟩
        cases e2 : evPs C cs s2 with
        | stuck => rw [e2] at h; exact h.elim
        | exc cc fs s3 => rw [e2] at h; exact fun mu3 H3 nx3 => h mu3 H3 ((nx.trans nx2).trans nx3)
        | ok qs s3 =>
          rw [e2] at h
          intro vs mu3 H3 nx3 ⟨F, nd, nw, R3, it⟩
          have t3 : Tm (hid G s2.env σ H1) (hid (plus G F) s3.env σ H3) := tm_plus nx3.tm fun a z => z.elim .inl fun z => .inr (nw a z).1
          refine h (v :: vs) mu3 H3 ((nx.trans nx2).trans nx3) ⟨F, nd, fun a z => ⟨?_, (nw a z).2⟩, R3, ?_⟩
          · cases q9 : H a with
            | none => rfl
            | some u => exact absurd (nw a z).1 (nx.dom a (by rw [q9]; exact fun w => by cases w))
          · cases q with
            | dat d => exact ⟨v, vs, rfl, dpT t3 w, it⟩
            | loc n => obtain ⟨a, rfl, w⟩ := w; exact ⟨a, vs, rfl, nx3.muN w, it⟩
            | fresh xs =>
              exfalso
              cases r with
              | fresh ys => exact hr ys rfl
              | dat _ => cases e1
              | loc _ => cases e1
              | slot i =>
                unfold Sg.esc at e1
                simp only at e1
                split at e1 <;> cases e1
            | slot j =>
              exfalso
              cases r with
              | fresh ys => exact hr ys rfl
              | dat _ => cases e1
              | loc _ => cases e1
              | slot i =>
                unfold Sg.esc at e1
                simp only at e1
                split at e1 <;> cases e1
    cases r with
    | dat d => exact other fun xs z => by cases z
    | loc d => exact other fun xs z => by cases z
    | slot d => exact other fun xs z => by cases z
    | fresh xs =>
      obtain ⟨a, ws, rfl, ha, hl, nG, da, R1⟩ := rv
      refine ⟨add1 G a, H0, mu0, mu1, s1, R1, ?_⟩
      have h : Post W X.K G H0 mu0 σ (RvPs X.K G H0 mu0 σ) mu s H ((evPs C cs s1).bind fun qs s3 => .ok (RV.fresh xs :: qs) s3) Q := h
      have up : ∀ {mu3 s3 H3}, Nx X.K (add1 G a) H0 mu0 mu1 s1 σ H1 mu3 s3 σ H3 → Nx X.K G H0 mu0 mu s σ H mu3 s3 σ H3 := fun nx3 => nx.under (fun _ z => .inl z) (fun b z => z.elim .inl fun z => .inr (z ▸ ha)) nx3
      cases e2 : evPs C cs s1 with
      | stuck => rw [e2] at h; exact h.elim
      | exc cc fs s3 => rw [e2] at h; exact fun mu3 H3 nx3 => ok.wm _ _ _ _ _ _ _ _ _ _ (fun _ z => .inl z) (h mu3 H3 (up nx3))
      | ok qs s3 =>
        rw [e2] at h
        intro vs mu3 H3 nx3 ⟨F, nd, nw, R3, it⟩
        have e9 : ∀ b, plus G (a :: F) b ↔ plus (add1 G a) F b := fun b => by
          unfold plus add1
          rw [List.mem_cons]
          constructor
          · rintro (z | z | z)
            · exact .inl (.inl z)
            · exact .inl (.inr z)
            · exact .inr z
          · rintro ((z | z) | z)
            · exact .inl z
            · exact .inr (.inl z)
            · exact .inr (.inr z)
        have e8 : plus G (a :: F) = plus (add1 G a) F := funext fun b => propext (e9 b)
        have t3 : Tm (hid (add1 G a) s1.env σ H1) (hid (plus (add1 G a) F) s3.env σ H3) := tm_plus nx3.tm fun b z => z.elim .inl fun z => .inr (nw b z).1
        refine h (.ref a :: vs) mu3 H3 (up nx3) ⟨a :: F, ?_, fun b z => ?_, e8 ▸ R3, a, ws, vs, F, rfl, rfl, (nx3.gk a (.inr rfl)).trans hl, ?_, ?_⟩
        · rw [List.nodup_cons]
          exact ⟨fun z => (nw a z).2 (.inr rfl), nd⟩
        · rcases List.mem_cons.mp z with z | z
          · subst z; exact ⟨ha, nG⟩
          · refine ⟨?_, fun w => (nw b z).2 (.inl w)⟩
            cases q9 : H b with
            | none => rfl
            | some u => exact absurd (nw b z).1 (nx.dom b (by rw [q9]; exact fun w => by cases w))
        · rw [e8]; exact daT t3 da
        · rw [e8]; exact it
end
/-! ### statements -/
def Pfl (W : Xw) (K : Fg) (G : Addr → Prop) (H0 : Hp) (mu0 : List Addr) (D : Ends) (mu' : List Addr) (s' : Sg) (σ' : St) (H' : Hp) : Fl → Prop
  | .next => D.nx σ' H'
  | .brk => D.bk σ' H'
  | .cont => D.ct σ' H'
  | .ret r => ∀ v, RVr K G H0 mu0 σ' H0 mu' s' H' r v → D.rt v H'
def PostS (W : Xw) (K : Fg) (G : Addr → Prop) (H0 : Hp) (mu0 : List Addr) (D : Ends) (mu : List Addr) (s : Sg) (σ : St) (H : Hp) : O Fl → Prop
  | .ok fl s' => ∀ mu' σ' H', Nx K G H0 mu0 mu s σ H mu' s' σ' H' → Pfl W K G H0 mu0 D mu' s' σ' H' fl
  | .exc c fs s' => ∀ mu' σ' H', Nx K G H0 mu0 mu s σ H mu' s' σ' H' → W G H0 mu0 c fs mu' s' σ' H'
  | .stuck => False
section
variable {W : Xw} {K : Fg} {G G' G1 : Addr → Prop} {H0 H H' H1 H2 Hb : Hp} {mu0 mu mu' mu1 mu2 muS : List Addr} {s s' s1 s2 sS : Sg} {σ σ' σ1 σ2 σS : St} {v : V} {α β : Type} {D D' : Ends}
theorem PostS.on {o : O Fl} (nx : Nx K G H0 mu0 mu s σ H mu1 s1 σ1 H1) (h : PostS W K G H0 mu0 D mu s σ H o) : PostS W K G H0 mu0 D mu1 s1 σ1 H1 o := by
  cases o with
  | ok fl s' => exact fun mu' σ' H' nx' => h mu' σ' H' (nx.trans nx')
  | exc c fs s' => exact fun mu' σ' H' nx' => h mu' σ' H' (nx.trans nx')
  | stuck => exact h
theorem PostS.bind {m : O α} {f : α → Sg → O Fl} {Rv : Rvt α β} (h : PostS W K G H0 mu0 D mu s σ H (m.bind f)) :
    Post W K G H0 mu0 σ Rv mu s H m (fun b H' => ∃ a mu' s', m = .ok a s' ∧ Nx K G H0 mu0 mu s σ H mu' s' σ H' ∧ Rv H mu' s' H' a b ∧ PostS W K G H0 mu0 D mu' s' σ H' (f a s')) := by
  cases m with
  | ok a s' => exact fun b mu' H' nx rv => ⟨a, mu', s', rfl, nx, rv, PostS.on nx h⟩
  | exc c fs s' => exact fun mu' H' nx => h mu' σ H' nx
  | stuck => exact h
theorem PostS.next (R : Rel K G H0 mu0 mu s σ H) (h : PostS W K G H0 mu0 D mu s σ H (.ok .next s)) : D.nx σ H := h mu σ H (.refl R)
end
def tS (W : Xw) (K : Fg) (C : Cn) (c : CS) : TS := fun D σ H => ∃ G H0 mu0 mu s, Rel K G H0 mu0 mu s σ H ∧ PostS W K G H0 mu0 D mu s σ H (ex C c s)
def tSs (W : Xw) (K : Fg) (C : Cn) (c : CSs) : TS := fun D σ H => ∃ G H0 mu0 mu s, Rel K G H0 mu0 mu s σ H ∧ PostS W K G H0 mu0 D mu s σ H (exs C c s)
theorem PS_imp {X : Cx} {e : Stmt} {t t' : TS} (h : PS X e t) (q : ∀ D σ H, t' D σ H → t D σ H) : PS X e t' := ⟨fun pins s σ H D I z => h.run pins s σ H D I (q D σ H z)⟩
theorem PSs_imp {X : Cx} {e : List Stmt} {t t' : TS} (h : PSs X e t) (q : ∀ D σ H, t' D σ H → t D σ H) : PSs X e t' := ⟨fun pins s σ H D I z => h.run pins s σ H D I (q D σ H z)⟩
def notLc : Expr → Bool
  | .ListComp .. => false
  | .SetComp .. => false
  | .DictComp .. => false
  | _ => true
theorem sw_no {e : Expr} {t : Option Expr} {l : Nat} {env : Env} (h : notLc e = true) : swapsWith e t l env = pure false := by
  cases e <;> first | rfl | (cases h)
theorem sw_sub {e o i : Expr} {p : Pos} {l : Nat} {env : Env} : swapsWith e (some (.Subscript o i p)) l env = pure false := by
  cases e <;> rfl
theorem sw_tup {e : Expr} {es : List Expr} {k : Nat} {p : Pos} {l : Nat} {env : Env} : swapsWith e (some (.Tuple es k p)) l env = pure false := by
  cases e <;> rfl
section
variable {X : Cx} {W : Xw} {C : Cn} {N : Nm}
theorem s_pass {pos : Pos} : PS X (.Pass pos) (tS W X.K C .pass) := PS_imp ps_pass fun D σ H ⟨G, H0, mu0, mu, s, R, h⟩ => h mu σ H (.refl R)
theorem s_brk {pos : Pos} : PS X (.Break pos) (tS W X.K C .brk) := PS_imp ps_break fun D σ H ⟨G, H0, mu0, mu, s, R, h⟩ => h mu σ H (.refl R)
theorem s_cont {pos : Pos} : PS X (.Continue pos) (tS W X.K C .cont) := PS_imp ps_continue fun D σ H ⟨G, H0, mu0, mu, s, R, h⟩ => h mu σ H (.refl R)
theorem s_expr {c : CE} {e : Expr} {pos : Pos} (he : PE X e (tE W X.K C c)) (hn : notLc e = true) : PS X (.Expr e pos) (tS W X.K C (.expr c)) :=
  PS_imp (ps_expr he (sw_no hn)) fun D σ H ⟨G, H0, mu0, mu, s, R, h⟩ => ⟨G, H0, mu0, mu, s, R, by
    rw [ex] at h
    exact (PostS.bind (Rv := RvE X.K G H0 mu0 σ) h).imp fun v H1 ⟨r, mu1, s1, _, nx, rv, h⟩ => PostS.next nx.rel h⟩
theorem Rel.h0d {K : Fg} {G : Addr → Prop} {H0 H : Hp} {mu0 mu : List Addr} {s : Sg} {σ : St} (R : Rel K G H0 mu0 mu s σ H) (a : Addr) (h : H0 a ≠ none) : H a ≠ none := fun z => h (R.h0 z)
theorem s_ret {c : CE} {e : Expr} {pos : Pos} (he : PE X e (tE W X.K C c)) : PS X (.Return (some e) pos) (tS W X.K C (.ret c)) :=
  PS_imp (ps_ret he) fun D σ H ⟨G, H0, mu0, mu, s, R, h⟩ => ⟨G, H0, mu0, mu, s, R, by
    rw [ex] at h
    exact (PostS.bind (Rv := RvE X.K G H0 mu0 σ) h).imp fun v H1 ⟨r, mu1, s1, _, nx, rv, h⟩ => h mu1 σ H1 (.refl nx.rel) v (RVr.back R.h0d rv)⟩
theorem s_retN {pos : Pos} : PS X (.Return none pos) (tS W X.K C .retN) :=
  PS_imp ps_retN fun D σ H ⟨G, H0, mu0, mu, s, R, h⟩ => h mu σ H (.refl R) .non .non
theorem s_ifs {c : CE} {a b : CSs} {e : Expr} {p q : List Stmt} {pos : Pos} (hc : PT X e (tT W X.K C c)) (ha : PSs X p (tSs W X.K C a)) (hb : PSs X q (tSs W X.K C b)) : PS X (.If e p q pos) (tS W X.K C (.ifs c a b)) :=
  PS_imp (ps_if hc ha hb) fun D σ H ⟨G, H0, mu0, mu, s, R, h⟩ => ⟨G, H0, mu0, mu, s, R, by
    rw [ex] at h
    refine (PostS.bind (Rv := RvP) h).imp fun k H1 ⟨k', mu1, s1, _, nx, rv, h⟩ => ?_
    have rv : k = k' := rv
    subst rv
    cases k with
    | true => exact ⟨G, H0, mu0, mu1, s1, nx.rel, h⟩
    | false => exact ⟨G, H0, mu0, mu1, s1, nx.rel, h⟩⟩
theorem ss_nil : PSs X [] (tSs W X.K C .nil) := PSs_imp pss_nil fun D σ H ⟨G, H0, mu0, mu, s, R, h⟩ => h mu σ H (.refl R)
theorem ss_cons {c : CS} {cs : CSs} {st : Stmt} {sts : List Stmt} (h1 : PS X st (tS W X.K C c)) (h2 : PSs X sts (tSs W X.K C cs)) : PSs X (st :: sts) (tSs W X.K C (.cons c cs)) :=
  PSs_imp (pss_cons h1 h2) fun D σ H ⟨G, H0, mu0, mu, s, R, h⟩ => ⟨G, H0, mu0, mu, s, R, by
    rw [exs] at h
    cases e : ex C c s with
    | stuck => rw [e] at h; exact h
    | exc cc fs s1 => rw [e] at h; exact h
    | ok fl s1 =>
      rw [e] at h
      intro mu1 σ1 H1 nx
      cases fl with
      | next => exact ⟨G, H0, mu0, mu1, s1, nx.rel, PostS.on nx h⟩
      | brk => exact h mu1 σ1 H1 nx
      | cont => exact h mu1 σ1 H1 nx
      | ret r => exact h mu1 σ1 H1 nx⟩
theorem s_never {st : Stmt} (c : CS) (h : ∀ s, ex C c s = .stuck) : PS X st (tS W X.K C c) := ⟨fun pins s σ H D I ⟨G, H0, mu0, mu, s0, R, z⟩ => by rw [h] at z; exact z.elim⟩
/-- one value for one name or a tuple of names -/
theorem gR_of {K : Fg} {G : Addr → Prop} {H0 H H1 : Hp} {mu0 mu mu1 : List Addr} {s s1 : Sg} {σ : St} {D : Ends} {t : Tg} {r : RV} {v : V} (nx : Nx K G H0 mu0 mu s σ H mu1 s1 σ H1) (rv : RVr K G H0 mu0 σ H mu1 s1 H1 r v) (R : Rel K G H0 mu0 mu s σ H)
    (h : PostS W K G H0 mu0 D mu s σ H ((setR t r s1).bind fun _ s2 => .ok .next s2)) : gR K t v σ H1 D.nx := by
  cases e : setR t r s1 with
  | stuck => rw [e] at h; exact h.elim
  | exc c fs s2 =>
    exfalso
    cases t with
    | nm i =>
      cases r with
      | fresh xs => rw [setR] at e; split at e <;> cases e
      | loc n => rw [setR] at e; split at e <;> cases e
      | dat d =>
        have e : (match setT (.nm i) d s1 with | some s2 => O.ok () s2 | none => .stuck) = .exc c fs s2 := e
        split at e <;> cases e
      | slot j =>
        have e : ((s1.escD (.slot j)).bind fun d s3 => match setT (.nm i) d s3 with | some s2 => O.ok () s2 | none => .stuck) = .exc c fs s2 := e
        cases q : s1.escD (.slot j) with
        | exc c fs s2 => exact escD_noexc q
        | stuck => rw [q] at e; cases e
        | ok d s3 =>
          rw [q] at e
          simp only [O.bind] at e
          split at e <;> cases e
    | tup ts =>
      rw [setR] at e
      split at e
      · split at e <;> cases e
      · cases e
  | ok u s2 =>
    rw [e] at h
    have h : ∀ mu' σ' H', Nx K G H0 mu0 mu s σ H mu' s2 σ' H' → D.nx σ' H' := h
    have base : ∀ {r' s'}, Nx K G H0 mu0 mu s σ H mu1 s' σ H1 → Its K (hid (plus G []) s'.env σ H1) H1 mu1 [r'] [v] [] → setR t r' s' = .ok () s2 → gR K t v σ H1 D.nx := fun {r' s'} nx' it e' =>
      ⟨G, H0, mu0, mu, s, σ, H, [], mu1, s', [r'], s2, ⟨nx', List.nodup_nil, fun a z => absurd z (by simp), nx'.rel.less fun a z => z.elim (fun z => z) fun z => absurd z (by simp), it, fun a z => absurd z (by simp)⟩, by rw [setRs, e']; rfl, fun mu' σ' H' n => h _ _ _ n⟩
    have e0 : plus G [] = G := funext fun a => propext ⟨fun z => z.elim (fun z => z) fun z => absurd z (by simp), .inl⟩
    cases r with
    | dat d => exact base (r' := .dat d) nx ⟨v, [], rfl, by rw [e0]; exact rv, rfl, rfl⟩ e
    | loc n => obtain ⟨a, rfl, q⟩ := rv; exact base (r' := .loc n) nx ⟨a, [], rfl, q, rfl, rfl⟩ e
    | fresh xs =>
      obtain ⟨a, ws, rfl, ha, hl, nG, da, R1⟩ := rv
      have e1 : plus G [a] = add1 G a := funext fun b => propext ⟨fun z => z.elim .inl fun z => .inr (by simpa using z), fun z => z.elim .inl fun z => .inr (by simpa using z)⟩
      refine ⟨G, H0, mu0, mu, s, σ, H, [a], mu1, s1, [.fresh xs], s2, ⟨nx, by simp, fun b z => ?_, e1 ▸ R1, ⟨a, ws, [], [], rfl, rfl, hl, by rw [e1]; exact da, rfl, rfl⟩, fun b z => ?_⟩, by rw [setRs, e]; rfl, fun mu' σ' H' n => h _ _ _ n⟩
      · have : b = a := by simpa using z
        subst this; exact ⟨ha, nG⟩
      · have : b = a := by simpa using z
        subst this; exact R.h0 ha
    | slot j =>
      -- a name of a list of one's own: it is given away first
      cases t with
      | nm i =>
        have e : ((s1.escD (.slot j)).bind fun d s3 => match setT (.nm i) d s3 with | some s2 => O.ok () s2 | none => .stuck) = .ok u s2 := e
        cases q : s1.escD (.slot j) with
        | exc c fs s2 => exact (escD_noexc q).elim
        | stuck => rw [q] at e; cases e
        | ok d s3 =>
          rw [q] at e
          obtain ⟨nx2, dp⟩ := escD_nx nx.rel (r := .slot j) rv q
          refine base (r' := .dat d) (nx.trans nx2) ⟨v, [], rfl, by rw [e0]; exact dp, rfl, rfl⟩ ?_
          exact e
      | tup ts =>
        rw [setR] at e
        cases q : s1.res (.slot j) with
        | none => rw [q] at e; cases e
        | some d =>
          rw [q] at e
          have rd := RVw.res nx.rel (r := .slot j) rv q
          simp only at e
          cases q2 : setT (.tup ts) d s1 with
          | none => rw [q2] at e; cases e
          | some s3 =>
            rw [q2] at e
            cases d with
            | tuple ds =>
              refine base (r' := .dat (.tuple ds)) nx ⟨v, [], rfl, ?_, rfl, rfl⟩ ?_
              · rw [e0]
                rcases rd with rd | ⟨_, _, _, _, z, _⟩
                · exact rd
                · cases z
              · show (match setT (.tup ts) (.tuple ds) s1 with | some s2 => O.ok () s2 | none => .stuck) = _
                rw [q2]; exact e
            | _ => rw [setT] at q2; cases q2; intro _ z; cases z
def notTL : Expr → Bool
  | .Tuple .. => false
  | .List .. => false
  | _ => true
theorem swst_no {t e : Expr} {env : Env} (h : notTL t = true ∨ notTL e = true) : swappedStores [t] e env = pure none := by
  rcases h with h | h
  · cases t <;> first | rfl | (cases h)
  · cases t <;> first | rfl | (cases e <;> first | rfl | (cases h))
theorem asg1 {t : Expr} {env : Env} (h : noStar t = true) : (assignEach [t] env).map (·.2) = [assign t env] := by rw [asgEach_cons h]; rfl
def isTup : Expr → Bool
  | .Tuple .. => true
  | _ => false
/-- t = e -/
theorem s_asg (ok : XOk X W C N) {t : Tg} {c : CE} {tg e : Expr} {pos : Pos} (he : PE X e (tE W X.K C c)) (ht : chkT t N tg = true) (hw : notTL tg = true ∨ notTL e = true) (hs : notLc e = true ∨ isTup tg = true) : PS X (.Assign [tg] e pos) (tS W X.K C (.asg t c)) := by
  have sw : swapsWithSole [tg] e pos.line X.env = pure false := by
    rcases hs with hs | hs
    · exact sw_no hs
    · cases tg with
      | Tuple es k p =>
        show swapsWith e (some (.Tuple es k p)) pos.line X.env = pure false
        exact sw_tup
      | _ => cases hs
  refine PS_imp (ps_asg he (pgr_of ok t tg ht) sw (swst_no hw) (asg1 (chkT_star ht))) fun D σ H ⟨G, H0, mu0, mu, s, R, h⟩ => ⟨G, H0, mu0, mu, s, R, ?_⟩
  rw [ex] at h
  cases em : ev C c s with
  | stuck => rw [em] at h; exact h.elim
  | exc cc fs s1 => rw [em] at h; exact fun mu' H' nx => h mu' σ H' nx
  | ok r s1 =>
    rw [em] at h
    exact fun v mu1 H1 nx rv => gR_of nx rv R h
end
end Pur
end
section
set_option Elab.async false
set_option linter.all false
set_option maxHeartbeats 1000000
namespace Pur
open PySem PySem.Spec L2
section
variable {K : Fg} {G G' G1 : Addr → Prop} {H0 H H' H1 H2 Hb : Hp} {mu0 mu mu' mu1 mu2 muS : List Addr} {s s' s1 s2 sS : Sg} {σ σ' σ1 σ2 σS : St} {v : V}
/-- a list is lent to a walk -/
theorem Nx.lend (R : Rel K G H0 mu0 mu s σ H) (p : Option Nat) : Nx K G H0 mu0 mu s σ H mu { s with env := lendE p s.env } σ H := by
  obtain ⟨R1, t⟩ := R.wiped p []
  exact ⟨R1, ⟨[], by simp⟩, t, fun _ h => h, fun _ _ => rfl, fun i xs h => ⟨lendE_lent h, fun _ z => ⟨z, rfl⟩⟩⟩
theorem Rel.unlent (R : Rel K G H0 mu0 mu s σ H) (p : Option Nat) : Rel K G H0 mu0 mu { s with env := unlendE p s.env } σ H ∧ Tm (hid G s.env σ H) (hid G (unlendE p s.env) σ H) := by
  refine R.re (by rw [unlendE_len]; exact R.len) (fun i xs a h z => ⟨xs, ownAt_unlend h, z⟩) fun t i e q => ?_
  rcases unlendE_get q with q3 | ⟨xs, rfl, q3⟩
  · obtain ⟨o, e1, e2⟩ := R.slots i e q3
    exact ⟨o, e1, EvR.mono t (fun _ _ _ _ => rfl) (fun _ _ z => z) e2⟩
  · obtain ⟨o, e1, e2⟩ := R.slots i _ q3
    have e2 : EvR K _ mu H o (.own xs) := e2
    exact ⟨o, e1, EvR.mono t (fun _ _ _ _ => rfl) (fun _ _ z => z) e2⟩
/-- and given back -/
theorem Nx.unlend {p : Option Nat} (hp : ∀ i, p = some i → ∃ xs, s.env[i]? = some (EV.own xs)) (R : Rel K G H0 mu0 mu s σ H) (nx : Nx K G H0 mu0 mu { s with env := lendE p s.env } σ H mu1 s1 σ1 H1) :
    Nx K G H0 mu0 mu s σ H mu1 { s1 with env := unlendE p s1.env } σ1 H1 := by
  have nx := (Nx.lend R p).trans nx
  obtain ⟨R1, t⟩ := nx.rel.unlent p
  refine ⟨R1, nx.pre, nx.tm.trans t, nx.dom, nx.gk, fun i xs h => ?_⟩
  obtain ⟨h1, h2⟩ := nx.lk i xs h
  refine ⟨unlendE_lent (fun z => ?_) h1, h2⟩
  obtain ⟨ys, q⟩ := hp i z
  rw [h] at q; cases q
theorem RVr.unlent {r : RV} (R : Rel K G H0 mu0 mu s σ H) (p : Option Nat) (h : RVr K G H0 mu0 σ Hb mu s H r v) : RVr K G H0 mu0 σ Hb mu { s with env := unlendE p s.env } H r v := by
  cases r with
  | dat d => exact dpT (R.unlent p).2 h
  | slot i => exact h
  | loc n => exact h
  | fresh xs =>
    obtain ⟨a, ws, e, q1, q2, q3, q4, R1⟩ := h
    exact ⟨a, ws, e, q1, q2, q3, daT (R1.unlent p).2 q4, (R1.unlent p).1⟩
end
/-- what is wanted of an exception does not hang on the slots -/
def We (W : Xw) : Prop := ∀ (G : Addr → Prop) H0 mu0 c fs mu env env' sto σ σ' H, W G H0 mu0 c fs mu ⟨env, sto⟩ σ H → W G H0 mu0 c fs mu ⟨env', sto⟩ σ' H
def notSet : Expr → Bool
  | .Set .. => false
  | _ => true
theorem fold_no {e : Expr} {env : Env} {x : Value} (h : notSet e = true) : foldedSetIterable e env x = pure x := by
  cases e <;> first | rfl | (cases h)
section
variable {X : Cx} {W : Xw} {C : Cn} {N : Nm}
theorem tFor_of (we : We W) {it : CI} {t : Tg} {b : CSs} {D : Ends} {σ : St} {H : Hp} (h : tS W K C (.for t it b) D σ H) : tFor (tI W K C it) (gT K t) (tSs W K C b) D σ H := by
  obtain ⟨G, H0, mu0, mu, s, R, h⟩ := h
  rw [ex] at h
  refine ⟨G, H0, mu0, mu, s, R, (PostS.bind (Rv := RvI K G σ) h).imp fun J H1 ⟨p, mu1, s1, _, nx, rv, h⟩ => ?_⟩
  have R1 := nx.rel
  generalize hsL : ({ s1 with env := lendE p.2 s1.env } : Sg) = sL at h
  have nL : Nx K G H0 mu0 mu1 s1 σ H1 mu1 sL σ H1 := by rw [← hsL]; exact Nx.lend R1 p.2
  have un : ∀ {mu' s' σ' H'}, Nx K G H0 mu0 mu1 sL σ H1 mu' s' σ' H' → Nx K G H0 mu0 mu1 s1 σ H1 mu' { s' with env := unlendE p.2 s'.env } σ' H' := fun n => by
    rw [← hsL] at n
    exact Nx.unlend (fun i z => rv.1 i z) R1 n
  have lentP : ∀ (j : Nat), (p.2 = some j ∨ ∃ xs, s1.env[j]? = some (EV.lent xs)) → ∃ xs, sL.env[j]? = some (EV.lent xs) := fun j z => by
    rcases z with z | ⟨xs, z⟩
    · obtain ⟨xs, q1⟩ := rv.1 j z
      exact ⟨xs, by rw [← hsL, z]; exact lendE_self q1⟩
    · exact ⟨xs, by rw [← hsL]; exact lendE_lent z⟩
  refine ⟨fun i m σ' H' => m = p.1.length - i ∧ i ≤ p.1.length ∧ ∃ mu' s', Nx K G H0 mu0 mu1 sL σ H1 mu' s' σ' H' ∧ forL t (exs C b) p.1 sL = forL t (exs C b) (p.1.drop i) s', ⟨_, rfl, Nat.zero_le _, mu1, sL, .refl nL.rel, rfl⟩, ?_⟩
  rintro i m σi Hi ⟨rfl, hi, mu', s', nx', ec⟩
  rw [ec] at h
  have tW : Tm (hid G s1.env σ H1) (hid G s'.env σi Hi) := nL.tm.trans nx'.tm
  have wk : Wlk K J p.1 (hid G s'.env σi Hi) Hi := by
    refine rv.2 _ _ tW hid_le fun j a z q => ?_
    obtain ⟨xs, q1⟩ := lentP j z
    exact ((nx'.lk j xs q1).2 a q).2
  by_cases hlt : i < p.1.length
  · refine .inr ?_
    obtain ⟨d, hd⟩ : ∃ d, p.1[i]? = some d := ⟨_, List.getElem?_eq_getElem hlt⟩
    have hdrop : p.1.drop i = d :: p.1.drop (i + 1) := by
      rw [List.drop_eq_getElem_cons hlt]
      congr 1
      rw [List.getElem?_eq_getElem hlt] at hd
      exact Option.some.inj hd
    rw [hdrop] at h ec
    obtain ⟨go, yl⟩ := wk.go i d hd
    refine ⟨go, _, fun σ2 H2 z => ⟨_, Nat.sub_lt_sub_left hlt (Nat.lt_succ_self i), rfl, hlt, z⟩, fun x H' y => ?_⟩
    obtain ⟨nx1, rx⟩ := RO.nx nx'.rel (yl x H' y)
    have rx : Dp K (hid G s'.env σi H') x d := rx
    rw [forL] at h ec
    cases es : setT t d s' with
    | none => rw [es] at h; exact h.elim
    | some s3 =>
      rw [es] at h ec
      dsimp only at h ec
      refine ⟨G, H0, mu0, mu', s', d, s3, nx1.rel, rx, es, fun σ2 nx2 sl => ⟨G, H0, mu0, mu', s3, nx2.rel, ?_⟩⟩
      have nA := (nx'.trans nx1).trans nx2
      cases e4 : exs C b s3 with
      | stuck => rw [e4] at h; exact h.elim
      | exc c fs s4 =>
        rw [e4] at h
        intro mu4 σ4 H4 nx4
        have q := h mu4 σ4 H4 (un (nA.trans nx4))
        exact we _ _ _ _ _ _ _ _ _ _ _ _ q
      | ok fl s4 =>
        rw [e4] at h ec
        intro mu4 σ4 H4 nx4
        cases fl with
        | next => exact ⟨mu4, s4, nA.trans nx4, ec⟩
        | cont => exact ⟨mu4, s4, nA.trans nx4, ec⟩
        | brk => exact h mu4 σ4 H4 (un (nA.trans nx4))
        | ret r => exact fun v rr => h mu4 σ4 H4 (un (nA.trans nx4)) v (RVr.unlent nx4.rel p.2 rr)
  · have e' : i = p.1.length := by omega
    subst e'
    refine .inl ⟨wk.stop, ?_⟩
    rw [List.drop_length] at h
    exact h mu' σi Hi (un nx')
theorem s_for (ok : XOk X W C N) (we : We W) (po : PassesOwn (model X.prog X.w) X.A X.env X.xe) {it : CI} {t : Tg} {b : CSs} {tg e : Expr} {body : List Stmt} {pos : Pos} (hi : PI X tg e (tI W X.K C it)) (ht : chkT t N tg = true) (hb : PSs X body (tSs W X.K C b)) (hs : notSet e = true) :
    PS X (.For tg e body [] pos) (tS W X.K C (.for t it b)) :=
  PS_imp (ps_for po ok.calm hi (pg_of ok t tg ht) hb fun _ => fold_no hs) fun D σ H h => tFor_of we h
theorem s_while (po : PassesOwn (model X.prog X.w) X.A X.env X.xe) {c : CE} {b : CSs} {e : Expr} {body : List Stmt} {pos : Pos} (hc : PT X e (tT W X.K C c)) (hb : PSs X body (tSs W X.K C b)) : PS X (.While e body [] pos) (tS W X.K C (.while c b)) := by
  refine PS_imp (ps_while po hc hb) fun D σ H ⟨G, H0, mu0, mu, s, R, h⟩ => ?_
  rw [ex] at h
  refine ⟨fun m σ' H' => ∃ mu' s', Nx X.K G H0 mu0 mu s σ H mu' s' σ' H' ∧ whileL (fun s => (ev C c s).tst) (exs C b) C.fuel s = whileL (fun s => (ev C c s).tst) (exs C b) m s', ⟨_, mu, s, .refl R, rfl⟩, ?_⟩
  rintro m σi Hi ⟨mu', s', nx, ec⟩
  rw [ec] at h
  cases m with
  | zero => exact h.elim
  | succ m =>
    rw [whileL] at h ec
    refine ⟨G, H0, mu0, mu', s', nx.rel, ?_⟩
    have h := PostS.on nx h
    cases e1 : (ev C c s').tst with
    | stuck => rw [e1] at h; exact h.elim
    | exc cc fs s1 => rw [e1] at h; exact fun mu4 H4 nx4 => h mu4 σi H4 nx4
    | ok k s1 =>
      rw [e1] at h ec
      intro k' mu4 H4 nx4 rk
      have rk : k' = k := rk
      subst rk
      cases k' with
      | false => exact h mu4 σi H4 nx4
      | true =>
        rw [if_pos rfl]
        refine ⟨fun σ' H' => ∃ mu' s', Nx X.K G H0 mu0 mu s σ H mu' s' σ' H' ∧ whileL (fun s => (ev C c s).tst) (exs C b) C.fuel s = whileL (fun s => (ev C c s).tst) (exs C b) m s', fun σ' H' z => ⟨m, Nat.lt_succ_self m, z⟩, G, H0, mu0, mu4, s1, nx4.rel, ?_⟩
        have nA := nx.trans nx4
        have h := PostS.on nx4 h
        change PostS _ _ _ _ _ _ _ _ _ _ ((exs C b s1).bind _) at h
        change _ = (exs C b s1).bind _ at ec
        cases e2 : exs C b s1 with
        | stuck => rw [e2] at h; exact h.elim
        | exc cc fs s2 => rw [e2] at h; exact h
        | ok fl s2 =>
          rw [e2] at h ec
          intro mu5 σ5 H5 nx5
          cases fl with
          | next => exact ⟨mu5, s2, nA.trans nx5, ec⟩
          | cont => exact ⟨mu5, s2, nA.trans nx5, ec⟩
          | brk => exact h mu5 σ5 H5 nx5
          | ret r => exact h mu5 σ5 H5 nx5
/-- x += e -/
def rAug (K : Fg) (o : BOp) : TIp := fun x y H Q => ∃ M dx dy d, Tm M H ∧ RD K M H x dx ∧ RD K M H y dy ∧ augD o dx dy = some d ∧ ∀ v H', RO K M H (.dat d) v H' → Q v H'
theorem icat_tup {P : Program} {w : World} {A : Around} {E : Value → Shared → Prop} {s : Shared} {a b : Addr} {vs ws : List Value} {Q : Value → Shared → Prop} (ha : s.heap.IsTuple a vs.toArray) (hb : s.heap.IsTuple b ws.toArray)
    (h0 : vs = [] → Q (.ref b) s) (h1 : vs ≠ [] → ws = [] → Q (.ref a) s) (h2 : vs ≠ [] → ws ≠ [] → Q (.ref s.heap.objs.size) { s with heap := s.heap.push { cls := .type "tuple", data := .seq (vs ++ ws).toArray } })
    (hsz : vs.length + ws.length ≤ sizeLine) : wpAny (model P w) A (inplaceOp .Add (.ref a) (.ref b)) Q E s := by
  obtain ⟨⟨c1, dd1, data1, sl1⟩, e1, q1, n1, z1⟩ := id ha
  obtain ⟨⟨c2, dd2, data2, sl2⟩, e2, q2, n2, z2⟩ := id hb
  simp only at q1 z1 q2 z2
  subst q1 z1 q2 z2
  have e : vs.toArray ++ ws.toArray = (vs ++ ws).toArray := by simp
  have hno : typeLookup (.type "tuple") (dunderI "add") = pure none := by rw [typeLookup_type, builtinLookup_eq_fast]; kernel_rfl
  refine wpAny_inplaceOp_concat ⟨_, e1, rfl⟩ ⟨_, e2, rfl⟩ hno noFill_tuple_add seq_tuple_add ?_
  by_cases h : vs = []
  · exact call_meets PySem.F.slot_tuple_add ⟨_, e1, rfl⟩ PySem.F.entry_tuple_add (PySem.F.args_tuple_add_2 _ _) (PyProof.Rows.tuple_addW0 a b vs.toArray ws.toArray n1 n2 dd1 dd2 sl1 sl2 (by simp [h])) ⟨e1, e2, h0 h⟩
  by_cases g : ws = []
  · exact call_meets PySem.F.slot_tuple_add ⟨_, e1, rfl⟩ PySem.F.entry_tuple_add (PySem.F.args_tuple_add_2 _ _) (PyProof.Rows.tuple_addW1 a b vs.toArray ws.toArray n1 n2 dd1 dd2 sl1 sl2 (by simpa using h) (by simp [g])) ⟨e1, e2, h1 h g⟩
  · refine call_meets PySem.F.slot_tuple_add ⟨_, e1, rfl⟩ PySem.F.entry_tuple_add (PySem.F.args_tuple_add_2 _ _) (PyProof.Rows.tuple_addW2 a b vs.toArray ws.toArray n1 n2 dd1 dd2 sl1 sl2 (by simpa using h) (by simpa using g) (by rw [List.size_toArray, List.size_toArray]; exact hsz)) ⟨e1, e2, ?_⟩
    rw [e]
    exact h2 h g
theorem ip_aug : PIp X .Add (rAug X.K .add) := by
  intro pins s σ H x y v u Q I rx ry ⟨M, dx, dy, d, t, hx, hy, e, q⟩
  unfold augD at e
  split at e
  · cases e
    exact ip_add pins s σ H x y v u Q I rx ry ⟨_, _, hx.int, hy.int, q _ _ (.old (.int _))⟩
  · rename_i z; cases z
  · split at e
    · rename_i hm
      cases e
      obtain ⟨a, vs, rfl, ha, da, pa⟩ := hx.tup
      obtain ⟨b, ws, rfl, hb, db, pb⟩ := hy.tup
      have l1 := daLen da
      have l2 := daLen db
      cases rx
      cases ry
      obtain ⟨its, r1, p1, _⟩ := I.tuple (t.sqT ha)
      obtain ⟨its2, r2, p2, _⟩ := I.tuple (t.sqT hb)
      have hz : vs.length + ws.length ≤ sizeLine := by rw [l1, l2]; exact hm
      refine icat_tup p1 p2 (fun z => ?_) (fun z1 z2 => ?_) (fun z1 z2 => ?_) (by have := r1.length; have := r2.length; omega)
      · have z := r1.nil_iff.mp z
        subst z
        cases da
        exact ⟨.ref b, H, I, rfl, q _ _ (.old pb)⟩
      · have z2 := r2.nil_iff.mp z2
        subst z2
        cases db
        rw [List.append_nil] at q
        exact ⟨.ref a, H, I, rfl, q _ _ (.old pa)⟩
      · refine ⟨.ref s.heap.objs.size, _, I.laid (t' := s.toks) (o := .tup (vs ++ ws)) (fun b ob q => Heap.get?_push_of_some _ q) (Nat.le_refl _) ?_, rfl, q _ _ (.tup (I.hok.fresh (Nat.le_refl _)) (daApp da db))⟩
        exact ⟨by rw [List.length_append]; exact hz, _, r1.append r2, PyProof.Rows.IsTup.new _ _⟩
    · cases e
  · split at e
    · rename_i hm
      cases e
      exact iop_add_str pins s σ H x y v u Q I rx ry ⟨_, _, hx.str, hy.str, hm, q _ _ (.old (.str _))⟩
    · cases e
  · cases e
theorem ip_augS : PIp X .Sub (rAug X.K .sub) := by
  intro pins s σ H x y v u Q I rx ry ⟨M, dx, dy, d, t, hx, hy, e, q⟩
  unfold augD at e
  split at e
  · rename_i z; cases z
  · cases e
    exact ip_sub pins s σ H x y v u Q I rx ry ⟨_, _, hx.int, hy.int, q _ _ (.old (.int _))⟩
  · rename_i z; cases z
  · rename_i z; cases z
  · cases e
theorem s_aug (ok : XOk X W C N) {i : Nat} {o : BOp} {c : CE} {x : Str} {e : Expr} {pos p : Pos} (hi : N.N[i]? = some x) (hx : stB N x = true) (he : PE X e (tE W X.K C c)) (ho : o = .add ∨ o = .sub) : PS X (.AugAssign (.Name x p) (opOf o) e pos) (tS W X.K C (.aug i o c)) := by
  obtain ⟨l1, l2⟩ := ok.st x hx
  have hp : PIp X (opOf o) (rAug X.K o) := by
    rcases ho with rfl | rfl
    · exact ip_aug
    · exact ip_augS
  refine PS_imp (ps_aug ok.nd (by rw [ok.nm]; exact hi) l1 he hp l2) fun D σ H ⟨G, H0, mu0, mu, s, R, h⟩ => ?_
  rw [ex] at h
  cases e1 : s.res (.slot i) with
  | none => rw [e1] at h; exact h.elim
  | some d1 =>
    rw [e1] at h
    dsimp only at h
    obtain ⟨v, hv⟩ : ∃ v, σ[i]? = some (some v) := by
      unfold Sg.res at e1
      simp only at e1
      split at e1
      · rename_i xs q; obtain ⟨o, z, a, ws, z2, _⟩ := R.slots i _ q; exact ⟨_, z2 ▸ z⟩
      · rename_i xs q; obtain ⟨o, z, a, ws, z2, _⟩ := R.slots i _ q; exact ⟨_, z2 ▸ z⟩
      · rename_i xs q; obtain ⟨o, z, a, z2, _⟩ := R.slots i _ q; exact ⟨_, z2 ▸ z⟩
      · cases e1
    refine ⟨v, hv, G, H0, mu0, mu, s, R, (PostS.bind (Rv := RvE X.K G H0 mu0 σ) h).imp fun y H1 ⟨r, mu1, s1, _, nx, rv, h⟩ => ?_⟩
    cases e2 : s1.res r with
    | none => rw [e2] at h; exact h.elim
    | some d2 =>
      rw [e2] at h
      dsimp only at h
      cases e3 : augD o d1 d2 with
      | none => rw [e3] at h; exact h.elim
      | some d3 =>
        rw [e3] at h
        dsimp only at h
        have n1 : ∀ xs, d1 ≠ .list xs := fun xs z => by
          rw [z] at e3
          unfold augD at e3
          cases o <;> cases d2 <;> cases e3
        have dp0 : Dp X.K (hid G s.env σ H) v d1 := (RVw.res R (r := .slot i) hv e1).flat n1
        refine ⟨_, d1, d2, d3, hid_le, .inl (dpT nx.tm dp0), rv.w.res nx.rel e2, e3, fun w H' ro => ?_⟩
        obtain ⟨nx3, rv3⟩ := RO.nx nx.rel ro
        cases e4 : setT (.nm i) d3 s1 with
        | none => rw [e4] at h; exact h.elim
        | some s2 =>
          rw [e4] at h
          rw [setT] at e4
          split at e4
          · rename_i hf
            cases e4
            exact h mu1 _ H' ((nx3).trans (nx3.rel.store (e' := .dat d3) hf (fun xs => ⟨(fun z => by cases z), (fun z => by cases z)⟩) fun M t => ⟨_, rfl, dpT t rv3⟩))
          · cases e4
/-! ### slots forgotten; items stored; turned about; methods -/
theorem killE_get {j : Nat} : ∀ {vs : List Nat} {env : List EV} {e : EV}, (killE env vs)[j]? = some e → env[j]? = some e ∨ (e = .non ∧ env[j]?.isSome = true)
  | [], env, e, h => .inl h
  | v :: vs, env, e, h => by
    unfold killE at h
    split at h
    · exact killE_get h
    · rcases killE_get h with q | ⟨q1, q2⟩
      · by_cases hv : v = j
        · subst hv
          rw [List.getElem?_set] at q
          rw [if_pos rfl] at q
          split at q
          · rename_i hl
            cases q
            exact .inr ⟨rfl, by rw [List.getElem?_eq_getElem hl]; rfl⟩
          · cases q
        · rw [List.getElem?_set_ne hv] at q
          exact .inl q
      · refine .inr ⟨q1, ?_⟩
        by_cases hv : v = j
        · subst hv
          rw [List.getElem?_set] at q2
          rw [if_pos rfl] at q2
          split at q2
          · rename_i hl
            rw [List.getElem?_eq_getElem hl]; rfl
          · cases q2
        · rw [List.getElem?_set_ne hv] at q2
          exact q2
theorem killE_len : ∀ {vs : List Nat} {env : List EV}, (killE env vs).length = env.length
  | [], _ => rfl
  | v :: vs, env => by
    unfold killE
    split
    · exact killE_len
    · rw [killE_len, List.length_set]
theorem killE_lent {i : Nat} {xs : List D} : ∀ {vs : List Nat} {env : List EV}, env[i]? = some (.lent xs) → (killE env vs)[i]? = some (.lent xs)
  | [], _, h => h
  | v :: vs, env, h => by
    unfold killE
    split
    · exact killE_lent h
    · rename_i q
      refine killE_lent ?_
      by_cases hv : v = i
      · subst hv; exact absurd h (q xs)
      · rw [List.getElem?_set_ne hv]; exact h
theorem Rel.kill {K : Fg} {G : Addr → Prop} {H0 H : Hp} {mu0 mu : List Addr} {s : Sg} {σ : St} (R : Rel K G H0 mu0 mu s σ H) (vs : List Nat) : Nx K G H0 mu0 mu s σ H mu { s with env := killE s.env vs } σ H := by
  have key : ∀ (i : Nat) (e : EV), (killE s.env vs)[i]? = some e → e = .non ∨ s.env[i]? = some e := fun i e h => (killE_get h).elim .inr fun q => .inl q.1
  have r := R.re (env2 := killE s.env vs) (σ2 := σ) (by rw [killE_len]; exact R.len) (fun i xs a h z => by
    rcases h with h | h
    · rcases key i _ h with q | q
      · cases q
      · exact ⟨xs, .inl q, z⟩
    · rcases key i _ h with q | q
      · cases q
      · exact ⟨xs, .inr q, z⟩) fun t i e h => by
    rcases killE_get h with q | ⟨rfl, q⟩
    · obtain ⟨o, e1, e2⟩ := R.slots i e q
      exact ⟨o, e1, EvR.mono t (fun _ _ _ _ => rfl) (fun _ _ z => z) e2⟩
    · obtain ⟨x, hx⟩ := Option.isSome_iff_exists.mp q
      obtain ⟨o, e1, _⟩ := R.slots i x hx
      exact ⟨o, e1, trivial⟩
  exact ⟨r.1, ⟨[], by simp⟩, r.2, fun _ h => h, fun _ _ => rfl, fun i xs h => ⟨killE_lent h, fun _ z => ⟨z, rfl⟩⟩⟩
theorem ss_kill {vs : List Nat} {cs : CSs} {sts : List Stmt} (h : PSs X sts (tSs W X.K C cs)) : PSs X sts (tSs W X.K C (.cons (.kill vs) cs)) :=
  PSs_imp h fun D σ H ⟨G, H0, mu0, mu, s, R, h⟩ => by
    rw [exs, ex] at h
    have nx := R.kill vs
    exact ⟨G, H0, mu0, mu, _, nx.rel, PostS.on nx h⟩
theorem ixN_len {n : Nat} {i : Int} {k : Nat} (h : L2.ixN n i = some k) : k < n := by
  unfold L2.ixN at h
  split at h
  · split at h
    · cases h; omega
    · cases h
  · split at h
    · cases h; omega
    · cases h
theorem s_puti (ok : XOk X W C N) {i : Nat} {k c : CE} {x : Str} {ek e : Expr} {p p2 pos : Pos} (hx : nmOk N i x = true) (hs : notSl ek = true) (hk : PE X ek (tE W X.K C k)) (he : PE X e (tE W X.K C c)) : PS X (.Assign [.Subscript (.Name x p) ek p2] e pos) (tS W X.K C (.puti i k c)) := by
  unfold nmOk at hx
  rw [Bool.and_eq_true, Bool.and_eq_true, decide_eq_true_eq] at hx
  obtain ⟨⟨h1, h2⟩, h3⟩ := hx
  obtain ⟨d1, d2⟩ := dbg_ok h3
  have sw : swapsWithSole [.Subscript (.Name x p) ek p2] e pos.line X.env = pure false := (sw_sub : swapsWith e (some (.Subscript (.Name x p) ek p2)) pos.line X.env = pure false)
  have hv : PE X (.Name x p) (tVar i) := pe_var (i := i) (by rw [ok.nm]; exact h1) (by rw [ok.sc]; exact visB_ok h2) d1 d2
  refine PS_imp (ps_asg he (pg_sub hv hk set_list (fun v => by rw [assign_Subscript]; cases ek <;> first | rfl | (cases hs))) sw (swst_no (.inl rfl)) (asg1 rfl)) fun D σ H ⟨G, H0, mu0, mu, s, R, h⟩ => ⟨G, H0, mu0, mu, s, R, ?_⟩
  rw [ex] at h
  refine (PostS.bind (Rv := RvE X.K G H0 mu0 σ) h).imp fun v H1 ⟨r, mu1, s1, _, nx, rv, h⟩ => ?_
  cases q1 : s1.escD r with
  | exc c fs s2 => exact (escD_noexc q1).elim
  | stuck => rw [q1] at h; exact h.elim
  | ok d s2 =>
    rw [q1] at h
    obtain ⟨nx2, dp⟩ := escD_nx nx.rel rv.w q1
    have h := PostS.on nx2 h
    simp only [O.bind] at h
    split at h
    · rename_i xs0 e0
      obtain ⟨o, e1, a, vs0, e2, e3, e4⟩ := nx2.rel.slots i _ e0
      subst e2
      refine ⟨_, e1, G, H0, mu0, mu1, s2, nx2.rel, ?_⟩
      change PostS _ _ _ _ _ _ _ _ _ _ ((ev C k s2).bind _) at h
      refine (PostS.bind (Rv := RvE X.K G H0 mu0 σ) h).imp fun y H2 ⟨u, mu3, s3, _, nx3, rv3, h⟩ => ?_
      cases q2 : s3.res u with
      | none => rw [q2] at h; exact h.elim
      | some kd =>
        rw [q2] at h
        dsimp only at h
        unfold putI at h
        split at h
        · rename_i xs n f1
          split at h
          · rename_i j f2
            obtain ⟨o, g1, a', vs, g2, g3, g4⟩ := nx3.rel.slots i _ f1
            rw [e1] at g1; cases g1; cases g2
            have l1 := daLen g4
            refine ⟨a, vs, n, j, rfl, (rv3.w.res nx3.rel q2).int, g3, by rw [l1]; exact f2, ?_⟩
            exact h mu3 σ _ (nx3.rel.mut f1 e1 g3 (daSet (dpT nx3.tm dp) j g4))
          · exact h.elim
        · exact h.elim
    · exact h.elim
end
end Pur
end
section
set_option Elab.async false
set_option linter.all false
set_option maxHeartbeats 1000000
namespace Pur
open PySem PySem.Spec L2
def isSt : Expr → Bool
  | .Starred .. => true
  | _ => false
def locAt (sc : Scope) (line : Nat) : Expr → Option Str
  | .Name id pos => if sc.names.lookup id == some .local && pos.line == line then some id else none
  | _ => none
def swB (sc : Scope) (ts vs : List Expr) : Option (Option (List Str)) :=
  if !(ts.length == 2 || ts.length == 3) || vs.length != ts.length then some none else
  if vs.any isSt then some none else
  if (ts.filterMap (locAt sc ((ts.head?.map (·.pos.line)).getD 0))).length != ts.length || (ts.filterMap (locAt sc ((ts.head?.map (·.pos.line)).getD 0))).eraseDups.length != (ts.filterMap (locAt sc ((ts.head?.map (·.pos.line)).getD 0))).length then some none else
  if vs.all (foldedForSure 8) then some none else
  if vs.all (constantsAlone 8) then none else some (some (ts.filterMap (locAt sc ((ts.head?.map (·.pos.line)).getD 0))))
theorem swB_ok {ts vs : List Expr} {k k2 : Nat} {p p2 : Pos} {env : Env} {r : Option (List Str)} (hk : env.scope.kind = .function) (h : swB env.scope ts vs = some r) : swappedStores [.Tuple ts k p] (.Tuple vs k2 p2) env = pure r := by
  have hb : env.blockKind = .function := by unfold Env.blockKind; rw [hk]; rfl
  have e1 : ∀ f : Expr → Bool, (∀ x, f x = isSt x) → vs.any f = vs.any isSt := fun f h => by rw [funext h]
  have e2 : ∀ f : Expr → Option Str, (∀ x, f x = locAt env.scope ((ts.head?.map (·.pos.line)).getD 0) x) → ts.filterMap f = ts.filterMap (locAt env.scope ((ts.head?.map (·.pos.line)).getD 0)) := fun f h => by rw [funext h]
  unfold swappedStores
  simp only [hb]
  rw [e1, e2]
  · unfold swB at h
    have e3 : ((!(ts.length == 2 || ts.length == 3) || vs.length != ts.length || ScopeKind.function != ScopeKind.function)) = (!(ts.length == 2 || ts.length == 3) || vs.length != ts.length) := by
      have : (ScopeKind.function != ScopeKind.function) = false := rfl
      rw [this, Bool.or_false]
    rw [e3]
    split at h
    · rename_i c; rw [if_pos c]; cases h; rfl
    rename_i c; rw [if_neg c]
    split at h
    · rename_i c; rw [if_pos c]; cases h; rfl
    rename_i c; rw [if_neg c]
    split at h
    · rename_i c; rw [if_pos c]; cases h; rfl
    rename_i c; rw [if_neg c]
    split at h
    · rename_i c; rw [if_pos c]; cases h; rfl
    rename_i c; rw [if_neg c]
    split at h
    · cases h
    rename_i c; rw [if_neg c]; cases h; rfl
  · intro x; cases x <;> rfl
  · intro x; cases x <;> rfl

theorem nodup_at {a : Addr} : ∀ {l : List Addr} {i j : Nat}, l.Nodup → l[i]? = some a → l[j]? = some a → i = j
  | [], _, _, _, h, _ => by simp at h
  | b :: l, 0, 0, _, _, _ => rfl
  | b :: l, 0, j + 1, nd, h1, h2 => by
    simp at h1 h2
    subst h1
    exact absurd (List.mem_of_getElem? h2) (List.nodup_cons.mp nd).1
  | b :: l, i + 1, 0, nd, h1, h2 => by
    simp at h1 h2
    subst h2
    exact absurd (List.mem_of_getElem? h1) (List.nodup_cons.mp nd).1
  | b :: l, i + 1, j + 1, nd, h1, h2 => by
    simp at h1 h2
    rw [nodup_at (List.nodup_cons.mp nd).2 h1 h2]
theorem kvr_len {K : Fg} {M : Hp} : ∀ {vs : List (Ky × V)} {kvs : List (Ky × D)}, KvR K M vs kvs → vs.length = kvs.length
  | _, _, .nil => rfl
  | _, _, .cons _ q => by rw [List.length_cons, List.length_cons, kvr_len q]
/-- an entry of a dict is stored -/
theorem Rel.put {K : Fg} {G : Addr → Prop} {H0 H : Hp} {mu0 mu : List Addr} {s : Sg} {σ : St} {n : Nat} {a : Addr} {vs vs' : List (Ky × V)} {kvs : List (Ky × D)} (R : Rel K G H0 mu0 mu s σ H) (hn : mu[n]? = some a) (hv : H a = some (.dK vs)) (hk : KvR K (hid G s.env σ H) vs' kvs) :
    Nx K G H0 mu0 mu s σ H mu { s with sto := s.sto.set n kvs } σ (upd H a (.dK vs')) := by
  have am : a ∈ mu := List.mem_of_getElem? hn
  have nown : ∀ b, ownA s.env σ b → b ≠ a := fun b z q => by
    obtain ⟨ws, e⟩ := R.ownH z
    rw [q, hv] at e; cases e
  have nG : ∀ b, G b → b ≠ a := fun b z q => (R.dom b z).2.2 (q ▸ am)
  have t : Tm (hid G s.env σ H) (hid G s.env σ (upd H a (.dK vs'))) := fun b o e nd => by
    obtain ⟨h1, h2, h3⟩ := hid_some e
    have ne : b ≠ a := fun q => by
      rw [q, hv] at h3; cases h3
      exact nd _ rfl
    rw [hid_yes h1 h2, upd_ne ne]; exact h3
  refine ⟨⟨R.len, fun i e q => ?_, R.inj, ?_, fun m kv b q1 q2 => ?_, R.nd, fun b z => ?_, fun b o e n' => ?_, R.new, R.pre⟩, ⟨[], by simp⟩, t, fun b z => ?_, fun b z => upd_ne (nG b z), fun i xs h => ⟨h, fun b z => ⟨z, upd_ne (nown b ⟨i, xs, .inr h, z⟩)⟩⟩⟩
  · obtain ⟨o, e1, e2⟩ := R.slots i e q
    refine ⟨o, e1, EvR.mono t (fun b xs z1 z2 => upd_ne ?_) (fun _ _ z => z) e2⟩
    subst z1
    rcases z2 with z | z
    · subst z; exact nown b ⟨i, xs, .inl q, e1⟩
    · subst z; exact nown b ⟨i, xs, .inr q, e1⟩
  · show mu.length = (s.sto.set n kvs).length
    rw [List.length_set]; exact R.stl
  · have q1 : (s.sto.set n kvs)[m]? = some kv := q1
    by_cases hm : n = m
    · subst hm
      have hl : n < s.sto.length := by rw [← R.stl]; exact (List.getElem?_eq_some_iff.mp hn).1
      rw [List.getElem?_set_self hl] at q1
      cases q1
      rw [hn] at q2; cases q2
      exact ⟨vs', upd_same, KvR.tm t hk⟩
    · rw [List.getElem?_set_ne hm] at q1
      obtain ⟨ws, h1, h2⟩ := R.sto m kv b q1 q2
      have ne : b ≠ a := fun q => by
        subst q
        exact hm (nodup_at R.nd hn q2)
      exact ⟨ws, (upd_ne ne).trans h1, KvR.tm t h2⟩
  · exact ⟨by rw [upd_ne (nG b z)]; exact (R.dom b z).1, (R.dom b z).2⟩
  · have ne : b ≠ a := fun q => by
      subst q
      obtain ⟨m, rfl, hm⟩ := R.pre
      rcases List.mem_append.mp am with z | z
      · exact n' z
      · rw [hm b z] at e; cases e
    rw [upd_ne ne]; exact R.ext b o e n'
  · by_cases q : b = a
    · subst q; rw [upd_same]; exact fun w => by cases w
    · rw [upd_ne q]; exact z
section
variable {X : Cx} {W : Xw} {C : Cn} {N : Nm}
/-- o[k] = e, o a dict -/
theorem s_put (ok : XOk X W C N) {o k c : CE} {eo ek e : Expr} {pos p : Pos} (ho : PE X eo (tE W X.K C o)) (hk : PE X ek (tE W X.K C k)) (he : PE X e (tE W X.K C c)) : PS X (.Assign [.Subscript eo ek p] e pos) (tS W X.K C (.put o k c)) := by
  have hu := ok.un
  refine PS_imp (ps_dput (by omega) ho hk he sw_sub) fun D σ H ⟨G, H0, mu0, mu, s, R, h⟩ => ⟨G, H0, mu0, mu, s, R, ?_⟩
  rw [ex] at h
  refine (PostS.bind (Rv := RvE X.K G H0 mu0 σ) h).imp fun v H1 ⟨r, mu1, s1, _, nx, rv, h⟩ => ?_
  cases q1 : s1.escD r with
  | exc c fs s2 => exact (escD_noexc q1).elim
  | stuck => rw [q1] at h; exact h.elim
  | ok d s2 =>
    rw [q1] at h
    obtain ⟨nx2, dp⟩ := escD_nx nx.rel rv.w q1
    have h := PostS.on nx2 h
    change PostS _ _ _ _ _ _ _ _ _ _ ((ev C o s2).bind _) at h
    refine ⟨G, H0, mu0, mu1, s2, nx2.rel, (PostS.bind (Rv := RvE X.K G H0 mu0 σ) h).imp fun x H3 ⟨q, mu3, s3, _, nx3, rv3, h⟩ => ?_⟩
    refine ⟨G, H0, mu0, mu3, s3, nx3.rel, (PostS.bind (Rv := RvE X.K G H0 mu0 σ) h).imp fun y H4 ⟨u, mu4, s4, _, nx4, rv4, h⟩ => ?_⟩
    cases e1 : s4.res u with
    | none => rw [e1] at h; exact h.elim
    | some kd =>
      rw [e1] at h
      dsimp only at h
      unfold putS at h
      split at h
      · rename_i n
        split at h
        · rename_i kvs ky f1 f2
          split at h
          · rename_i hl
            obtain ⟨a, rfl, g1⟩ := rv3
            have g2 := nx4.muN g1
            obtain ⟨kvs', vs, z1, z2, z3⟩ := nx4.rel.muH g2
            rw [f1] at z1; cases z1
            have rk := rv4.w.res nx4.rel e1
            have ey : y = kV ky := by
              unfold keyD at f2
              split at f2
              · cases f2; exact rk.int
              · cases f2; exact rk.str
              · cases f2
            refine ⟨a, _, rfl, ey ▸ DPut.k z2 (by rw [kvr_len z3]; exact hl), ?_⟩
            have nxp := nx4.rel.put g2 z2 (kvr_put (k := ky) (dpT (nx3.tm.trans nx4.tm) dp) z3)
            exact h _ _ _ nxp
          · exact h.elim
        · exact h.elim
      · exact h.elim
/-- several stores at once: what they give -/
theorem par_of {K : Fg} {cs : CEs} {ts : Tgs} {D : Ends} {σ : St} {H : Hp} (h : tS W K C (.par ts cs) D σ H) : tPs W K C cs σ H fun vs H1 => gRs K ts vs σ H1 D.nx := by
  obtain ⟨G, H0, mu0, mu, s, R, h⟩ := h
  refine ⟨G, H0, mu0, mu, s, R, ?_⟩
  rw [ex] at h
  cases em : evPs C cs s with
  | stuck => rw [em] at h; exact h.elim
  | exc cc fs s1 => rw [em] at h; exact fun mu' H' nx => h mu' σ H' nx
  | ok rs s1 =>
    rw [em] at h
    intro vs mu1 H1 nx ⟨F, nd, nw, R1, it⟩
    change PostS _ _ _ _ _ _ _ _ _ _ ((setRs ts rs s1).bind _) at h
    cases e : setRs ts rs s1 with
    | stuck => rw [e] at h; exact h.elim
    | exc c fs s2 => exact (setRs_noexc e).elim
    | ok u s2 =>
      rw [e] at h
      exact ⟨G, H0, mu0, mu, s, σ, H, F, mu1, s1, rs, s2, ⟨nx, nd, nw, R1, it, fun a z => R.h0 (nw a z).1⟩, e, fun mu' σ' H' n => h _ _ _ n⟩
where
  setR_noexc {t : Tg} {r : RV} {s1 s2 : Sg} {c : Nat} {fs : List PyData} (e : setR t r s1 = .exc c fs s2) : False := by
    cases t with
    | nm i =>
      cases r with
      | fresh xs => rw [setR] at e; split at e <;> cases e
      | loc n => rw [setR] at e; split at e <;> cases e
      | dat d =>
        have e : (match setT (.nm i) d s1 with | some s2 => O.ok () s2 | none => .stuck) = .exc c fs s2 := e
        split at e <;> cases e
      | slot j =>
        have e : ((s1.escD (.slot j)).bind fun d s3 => match setT (.nm i) d s3 with | some s2 => O.ok () s2 | none => .stuck) = .exc c fs s2 := e
        cases q : s1.escD (.slot j) with
        | exc c fs s2 => exact escD_noexc q
        | stuck => rw [q] at e; cases e
        | ok d s3 =>
          rw [q] at e
          simp only [O.bind] at e
          split at e <;> cases e
    | tup ts =>
      rw [setR] at e
      split at e
      · split at e <;> cases e
      · cases e
  setRs_noexc {c : Nat} {fs : List PyData} {s2 : Sg} : ∀ {ts : Tgs} {rs : List RV} {s1 : Sg}, setRs ts rs s1 = .exc c fs s2 → False
    | .nil, [], _, e => by cases e
    | .nil, _ :: _, _, e => by cases e
    | .cons _ _, [], _, e => by cases e
    | .cons t ts, r :: rs, s1, e => by
      rw [setRs] at e
      cases q : setR t r s1 with
      | stuck => rw [q] at e; cases e
      | exc c' fs' s3 => exact setR_noexc q
      | ok u s3 => rw [q] at e; exact setRs_noexc e
def Tgs.len : Tgs → Nat
  | .nil => 0
  | .cons _ ts => ts.len + 1
theorem setRs_len {u : Unit} {s' : Sg} : ∀ {ts : Tgs} {rs : List RV} {s : Sg}, setRs ts rs s = .ok u s' → rs.length = ts.len
  | .nil, [], _, e => rfl
  | .nil, _ :: _, _, e => by cases e
  | .cons _ _, [], _, e => by cases e
  | .cons t ts, r :: rs, s, e => by
    rw [setRs] at e
    cases q : setR t r s with
    | stuck => rw [q] at e; cases e
    | exc c' fs' s3 => rw [q] at e; cases e
    | ok u s3 =>
      rw [q] at e
      simp only [List.length_cons, Tgs.len, setRs_len (ts := ts) (rs := rs) (s := s3) e]
theorem gRs_len {K : Fg} {ts : Tgs} {vs : List V} {σ : St} {H : Hp} {Q : St → Hp → Prop} : gRs K ts vs σ H Q → vs.length = ts.len
  | ⟨G, H0, mu0, muS, sS, σS, HS, F, mu, s, rs, s', P, e, q⟩ => by rw [P.its.len]; exact setRs_len e
theorem chkTs_length : ∀ {ts : Tgs} {N : Nm} {es : List Expr}, chkTs ts N es = true → ts.len = es.length
  | .nil, _, [], _ => rfl
  | .nil, _, _ :: _, h => by cases h
  | .cons _ _, _, [], h => by cases h
  | .cons t ts, N, e :: es, h => by
    unfold chkTs at h
    rw [Bool.and_eq_true] at h
    simp only [Tgs.len, List.length_cons, chkTs_length h.2]
/-- a, b, .. = x, y, .. by a tuple -/
theorem s_par (ok : XOk X W C N) (hk : N.sc.kind = .function) {ts : Tgs} {cs : CEs} {tes ves : List Expr} {k k2 : Nat} {p p2 pos : Pos} (hv : PA X ves (tPs W X.K C cs)) (ht : chkTs ts N tes = true) (hl : tes.length ≤ 100) (hw : swB N.sc tes ves = some none) :
    PS X (.Assign [.Tuple tes k p] (.Tuple ves k2 p2) pos) (tS W X.K C (.par ts cs)) := by
  obtain ⟨l1, l2⟩ := chkTs_each (env := X.env) ht
  have hw' : swappedStores [.Tuple tes k p] (.Tuple ves k2 p2) X.env = pure none := swB_ok (by rw [ok.sc]; exact hk) (by rw [ok.sc]; exact hw)
  refine PS_imp (ps_asg (pe_tup hv) (pg_tup ok.calm (pgrs_of ok ts tes ht) l1 l2) rfl hw' (asg1 rfl)) fun D σ H h => ?_
  obtain ⟨G, H0, mu0, mu, s, R, h⟩ := par_of h
  refine ⟨G, H0, mu0, mu, s, R, h.imp fun vs H1 q => ?_⟩
  have ql := gRs_len q
  rw [chkTs_length ht] at ql
  refine ⟨by rw [ql]; exact Nat.le_trans hl (by decide), fun p hp => ⟨p, vs, rfl, .of upd_same, ql, ?_⟩⟩
  obtain ⟨G, H0, mu0, muS, sS, σS, HS, F, mu, s, rs, s', P, e, q⟩ := q
  have R1 := P.rel.new1 (o := .tup vs) hp
  have t := tm_new (G := plus G F) (env := s.env) (σ := σ) (o := HO.tup vs) hp
  have t2 : Tm (hid (add1 (plus G F) p) s.env σ (upd H1 p (.tup vs))) (hid (plus G F) s.env σ (upd H1 p (.tup vs))) := hid_mono fun _ z => .inl z
  have nx1 : Nx X.K (plus G F) H0 mu0 mu s σ H1 mu s σ (upd H1 p (.tup vs)) := ⟨R1.less fun _ z => .inl z, ⟨[], by simp⟩, t.trans t2, fun a z => (by
    by_cases q : a = p
    · subst q; rw [upd_same]; exact fun w => by cases w
    · rw [upd_ne q]; exact z), fun a z => upd_ne fun e => P.rel.noG hp (e ▸ z), fun i xs h => ⟨h, fun a z => ⟨z, upd_ne fun (e : a = p) => P.rel.noOwn hp (e ▸ ⟨i, xs, .inr h, z⟩)⟩⟩⟩
  have it : Its X.K (hid (plus G F) s.env σ (upd H1 p (.tup vs))) (upd H1 p (.tup vs)) mu rs vs F := its_upd hp (Its.tm nx1.tm P.its)
  refine ⟨G, H0, mu0, muS, sS, σS, HS, F, mu, s, rs, s', ⟨P.nx.under (fun _ z => .inl z) (fun a z => z.elim .inl fun z => .inr (P.nw a z).1) nx1, P.nd, P.nw, nx1.rel, it, P.h0⟩, e, q⟩
where
  its_upd {K : Fg} {M H : Hp} {mu : List Addr} {p : Addr} {o : HO} (hp : H p = none) : ∀ {rs : List RV} {vs : List V} {F : List Addr}, Its K M H mu rs vs F → Its K M (upd H p o) mu rs vs F
    | [], _, _, h => h
    | .fresh xs :: rs, _, _, ⟨a, ws, vs', F', e1, e2, e3, e4, e5⟩ => ⟨a, ws, vs', F', e1, e2, (upd_ne (ne_of_none e3 hp)).trans e3, e4, its_upd hp e5⟩
    | .dat d :: rs, _, _, ⟨v, vs', e1, e2, e3⟩ => ⟨v, vs', e1, e2, its_upd hp e3⟩
    | .loc n :: rs, _, _, ⟨a, vs', e1, e2, e3⟩ => ⟨a, vs', e1, e2, its_upd hp e3⟩
    | .slot _ :: _, _, _, h => h
/-- two local names -/
theorem s_par2 (ok : XOk X W C N) (hk : N.sc.kind = .function) {i j : Nat} {x y : Str} {a b : Expr} {cs : CEs} {k k2 : Nat} {p p2 px py pos : Pos} (hv : PA X [a, b] (tPs W X.K C cs)) (hi : N.N[i]? = some x) (hj : N.N[j]? = some y) (hij : i ≠ j)
    (hx : N.sc.names.lookup x = some .local) (hy : N.sc.names.lookup y = some .local) (hw : swB N.sc [.Name x px, .Name y py] [a, b] = some (some [x, y])) :
    PS X (.Assign [.Tuple [.Name x px, .Name y py] k p] (.Tuple [a, b] k2 p2) pos) (tS W X.K C (.par (.cons (.nm i) (.cons (.nm j) .nil)) cs)) := by
  have hw' : swappedStores [.Tuple [.Name x px, .Name y py] k p] (.Tuple [a, b] k2 p2) X.env = pure (some [x, y]) := swB_ok (by rw [ok.sc]; exact hk) (by rw [ok.sc]; exact hw)
  refine PS_imp (ps_par ok.calm ok.nd (by rw [ok.nm]; exact hi) (by rw [ok.nm]; exact hj) hij (by rw [ok.sc]; exact hx) (by rw [ok.sc]; exact hy) hv hw' rfl) fun D σ H h => ?_
  obtain ⟨G, H0, mu0, mu, s, R, h⟩ := par_of h
  refine ⟨G, H0, mu0, mu, s, R, h.imp fun vs H1 q => ?_⟩
  obtain ⟨v, us, rfl, q1⟩ := gRs_split q
  obtain ⟨w, us, rfl, q2⟩ := gRs_split q1
  obtain ⟨rfl, q3⟩ := setRs_nil q2
  exact ⟨v, w, rfl, q3⟩
theorem s_par3 (ok : XOk X W C N) (hk : N.sc.kind = .function) {i j l : Nat} {x y z : Str} {a b c : Expr} {cs : CEs} {k k2 : Nat} {p p2 px py pz pos : Pos} (hv : PA X [a, b, c] (tPs W X.K C cs)) (hi : N.N[i]? = some x) (hj : N.N[j]? = some y) (hl : N.N[l]? = some z) (hij : i ≠ j) (hil : i ≠ l) (hjl : j ≠ l)
    (hx : N.sc.names.lookup x = some .local) (hy : N.sc.names.lookup y = some .local) (hz : N.sc.names.lookup z = some .local) (hw : swB N.sc [.Name x px, .Name y py, .Name z pz] [a, b, c] = some (some [x, y, z])) :
    PS X (.Assign [.Tuple [.Name x px, .Name y py, .Name z pz] k p] (.Tuple [a, b, c] k2 p2) pos) (tS W X.K C (.par (.cons (.nm i) (.cons (.nm j) (.cons (.nm l) .nil))) cs)) := by
  have hw' : swappedStores [.Tuple [.Name x px, .Name y py, .Name z pz] k p] (.Tuple [a, b, c] k2 p2) X.env = pure (some [x, y, z]) := swB_ok (by rw [ok.sc]; exact hk) (by rw [ok.sc]; exact hw)
  refine PS_imp (ps_par3 ok.calm ok.nd (by rw [ok.nm]; exact hi) (by rw [ok.nm]; exact hj) (by rw [ok.nm]; exact hl) hij hil hjl (by rw [ok.sc]; exact hx) (by rw [ok.sc]; exact hy) (by rw [ok.sc]; exact hz) hv hw' rfl) fun D σ H h => ?_
  obtain ⟨G, H0, mu0, mu, s, R, h⟩ := par_of h
  refine ⟨G, H0, mu0, mu, s, R, h.imp fun vs H1 q => ?_⟩
  obtain ⟨v, us, rfl, q1⟩ := gRs_split q
  obtain ⟨w, us, rfl, q2⟩ := gRs_split q1
  obtain ⟨u, us, rfl, q3⟩ := gRs_split q2
  obtain ⟨rfl, q4⟩ := setRs_nil q3
  exact ⟨v, w, u, rfl, q4⟩
end
end Pur
end
section
set_option Elab.async false
set_option linter.all false
set_option maxHeartbeats 1000000
namespace Pur
open PySem PySem.Spec L2 PyProof.Rows
/-! ### x[::-1] -/
theorem places_rev (n : Nat) : Builtin.Slice.slicePlaces ((n : Int) - 1) (-1) (-1) = n := by
  unfold Builtin.Slice.slicePlaces
  rw [if_neg (by decide)]
  split
  · rw [show (-(-1 : Int)) = 1 from rfl, Int.ediv_one]; omega
  · omega
theorem applied_rev {P : Program} {w : World} {A : Around} {E : Value → Shared → Prop} {s : Shared} {sl : Addr} {va vb vc : Value} {n : Nat} {Q : Int × Int × Nat → Shared → Prop} (hs : s.heap.IsSliceOf sl va vb vc) (pa : IsPart va none) (pb : IsPart vb none) (pc : IsPart vc (some (-1)))
    (h : Q ((n : Int) - 1, -1, n) s) : wpAny (model P w) A (Builtin.Slice.sliceApplied (.ref sl) (pure (n : Int))) Q E s := by
  obtain ⟨o, ho, _, hd⟩ := id hs
  unfold Builtin.Slice.sliceApplied Builtin.Slice.sliceFields
  refine wpAny_bind (wpAny_bind (wpAny_field ho hd (x := va) rfl (wpAny_bind (wpAny_field ho hd (x := vb) rfl (wpAny_bind (wpAny_field ho hd (x := vc) rfl (wpAny_pure ?_)))))))
  refine wpAny_bind (HT.slicePart_ pc ?_)
  show wpAny _ _ (if ((-1 : Int) == 0) = true then _ else _) _ _ s
  rw [if_neg (by decide)]
  refine wpAny_bind (HT.slicePart_ pa (wpAny_bind (HT.slicePart_ pb (wpAny_bind (wpAny_pure ?_)))))
  show wpAny _ _ (pure ((n : Int) - 1, (-1 : Int), Builtin.Slice.slicePlaces ((n : Int) - 1) (-1) (-1))) _ _ s
  rw [places_rev]
  exact wpAny_pure h
theorem fm_congr {α β : Type} {f g : α → Option β} : ∀ {l : List α}, (∀ x ∈ l, f x = g x) → l.filterMap f = l.filterMap g
  | [], _ => rfl
  | x :: l, h => by rw [List.filterMap_cons, List.filterMap_cons, h x List.mem_cons_self, fm_congr fun y m => h y (List.mem_cons_of_mem _ m)]
theorem pick_rev (xs : Array Value) : ((List.range xs.size).filterMap fun (m : Nat) => xs[(((xs.size : Int) - 1) + (m : Int) * (-1)).toNat]?).toArray = xs.toList.reverse.toArray := by
  have h := PySem.W.krv_all xs.reverse
  rw [Array.size_reverse, Array.toList_reverse] at h
  rw [← h]
  congr 1
  refine fm_congr fun m hm => ?_
  have hm := List.mem_range.mp hm
  rw [Array.getElem?_reverse hm]
  congr 1
  omega
theorem item_tup_rev {P : Program} {w : World} {A : Around} {E : Value → Shared → Prop} {s : Shared} {t sl : Addr} {its : Array Value} {va vb vc : Value} {Q : Value → Shared → Prop} (ht : s.heap.IsTuple t its) (hs : s.heap.IsSliceOf sl va vb vc) (pa : IsPart va none) (pb : IsPart vb none) (pc : IsPart vc (some (-1)))
    (h : Q (.ref s.heap.objs.size) { s with heap := s.heap.push { cls := .type "tuple", data := .seq its.toList.reverse.toArray } }) (hz : its.size ≤ sizeLine) : wpAny (model P w) A (getItem (.ref t) (.ref sl)) Q E s := by
  obtain ⟨o, ho, hc, _⟩ := id hs
  have hT : s.TypeIs (.ref sl) "slice" := ⟨o, ho, hc⟩
  have hz2 : sizeOk (.seq its.toList.reverse.toArray) := by
    show its.toList.reverse.toArray.size ≤ sizeLine
    simpa using hz
  unfold getItem
  try with_reducible refine wpAny_holding ?_
  first | refine wpAny_bind (wpAny_pure ?_) | skip
  refine wpAny_bind (wpAny_sequenceKey ht.typeIs (by decide) ?_)
  refine wpAny_bind (wpAny_callSpecial?_slot (name := Str.ofString "__getitem__") ht.typeIs PyProof.Rows.slot_tuple_getitem (wpAny_call_entry PyProof.Rows.slot_tuple_getitem ht.typeIs entry_tuple_getitem ?_ (args_tuple_getitem _ _)))
  show wpAny _ _ (Builtin.Tuple.tupleItemsOf (.ref t) >>= _) _ _ s
  refine wpAny_bind (tupleItemsOf_ ht ?_)
  refine wpAny_bind (wpAny_typeOf hT ?_)
  rw [if_pos (by decide)]
  refine wpAny_bind (applied_rev hs pa pb pc ?_)
  have hno : ¬ ((((its.size : Int) - 1) == 0 && (-1 : Int) == 1 && its.size == its.size) = true) := by
    intro q
    rw [Bool.and_eq_true, Bool.and_eq_true] at q
    exact absurd q.1.2 (by decide)
  show wpAny _ _ (if (((its.size : Int) - 1) == 0 && (-1 : Int) == 1 && its.size == its.size) = true then _ else _) _ _ s
  rw [if_neg hno, pick_rev]
  first
    | exact wpAny_bind (m := Builtin.Tuple.tupleExact _) (wpAny_newObj_type (wpAny_pure ⟨_, rfl, wpAny_pure h⟩) hz2)
    | exact wpAny_bind (wpAny_bind (m := Builtin.Tuple.tupleExact _) (wpAny_newObj_type (wpAny_pure ⟨_, rfl, wpAny_pure h⟩) hz2))
def tRevD (K : Fg) (te : TE) : TE := fun σ H Q => te σ H fun x H1 => ∃ M d r, Tm M H1 ∧ RD K M H1 x d ∧ revD d = some r ∧ ∀ v H', RO K M H1 r v H' → Q v H'
theorem pe_revD {X : Cx} {e : Expr} {te : TE} {k : Nat} {p1 p2 p3 pos : Pos} (he : PE X e te) : PE X (.Subscript e (.Slice none none (some (.UnaryOp .USub (.Constant (.int 1) k p1) p2)) p3) pos) (tRevD X.K te) := by
  refine ⟨fun pins s σ H Q I h => ?_⟩
  refine Subscript_ (thn (he.run pins s σ H _ I h) fun v s1 ⟨x, H1, I1, r1, M, d, r, t, hx, hr, q⟩ => ?_)
  have hst : PO X (some (.UnaryOp .USub (.Constant (.int 1) k p1) p2)) (tPart (tUn (rU fun i => .int (-i)) (tC (.int 1)))) := po_some (pe_un un_neg pe_int)
  refine wpAny_Slice (thn (po_none.run pins s1 σ H1 (fun o H2 => o = none ∧ H2 = H1) I1 ⟨rfl, rfl⟩) fun vl s2 ⟨l, H2, I2, pl, el, e2⟩ => ?_)
  subst el e2
  refine thn (po_none.run pins s2 σ H2 (fun o H3 => o = none ∧ H3 = H2) I2 ⟨rfl, rfl⟩) fun vu s3 ⟨u, H3, I3, pu, eu, e3⟩ => ?_
  subst eu e3
  refine thn (hst.run pins s3 σ H3 (fun o H4 => o = some (-1) ∧ H4 = H3) I3 ⟨1, rfl, -1, rfl, rfl, rfl⟩) fun vs s4 ⟨o, H4, I4, ps, eo, e4⟩ => ?_
  subst eo e4
  have I5 : Inv X pins σ H4 { s4 with heap := s4.heap.push { cls := .type "slice", data := .fields #[vl, vu, vs] } } := I4.kept (t' := s4.toks) fun b ob q => Heap.get?_push_of_some _ q
  cases d with
  | list xs =>
    cases hr
    obtain ⟨a, ws, rfl, hl, da⟩ := hx.lst t
    cases r1
    obtain ⟨its, rv, ht, hz⟩ := I5.list hl
    have hlen := rv.length
    show wpAny (model X.prog X.w) X.A (subscriptTail e (.Slice none none (some (.UnaryOp .USub (.Constant (.int 1) k p1) p2)) p3) (.ref a) (.ref s4.heap.objs.size)) (EP X pins σ Q) X.xe { s4 with heap := s4.heap.push { cls := .type "slice", data := .fields #[vl, vu, vs] } }
    refine tail_any (ops := [.ref a, .ref s4.heap.objs.size]) ht.isList.typeIs (PySem.slot_list_getitem.lookup) ?_ (by with_unfolding_all rfl)
    refine wpAny_getItem_list_slice ht.isList (Heap.IsSliceOf.new _ vl vu vs) pl pu ps (by decide) ?_ (by rw [List.size_toArray]; omega)
    rw [PySem.W.krv_pick]
    refine ⟨.ref _, _, I5.laid (t' := s4.toks) (o := .lst ws.reverse) (fun b ob q => Heap.get?_push_of_some _ q) (Nat.le_refl _) ?_, rfl, q _ _ (.lst (I5.hok.fresh (Nat.le_refl _)) (daRev da))⟩
    exact ⟨by rw [List.length_reverse]; exact hz, _, 0, rv.reverse, Heap.get?_push_size _ rfl⟩
  | tuple xs =>
    cases hr
    obtain ⟨a, ws, rfl, hl, da, pa⟩ := hx.tup
    cases r1
    obtain ⟨its, rv, ht, hz⟩ := I5.tuple (t.sqT hl)
    have hlen := rv.length
    show wpAny (model X.prog X.w) X.A (subscriptTail e (.Slice none none (some (.UnaryOp .USub (.Constant (.int 1) k p1) p2)) p3) (.ref a) (.ref s4.heap.objs.size)) (EP X pins σ Q) X.xe { s4 with heap := s4.heap.push { cls := .type "slice", data := .fields #[vl, vu, vs] } }
    refine tail_any (ops := [.ref a, .ref s4.heap.objs.size]) ht.typeIs (PyProof.Rows.slot_tuple_getitem.lookup) ?_ (by with_unfolding_all rfl)
    refine item_tup_rev ht (Heap.IsSliceOf.new _ vl vu vs) pl pu ps ?_ (by rw [List.size_toArray]; omega)
    refine ⟨.ref _, _, I5.laid (t' := s4.toks) (o := .tup ws.reverse) (fun b ob q => Heap.get?_push_of_some _ q) (Nat.le_refl _) ?_, rfl, q _ _ (.tup (I5.hok.fresh (Nat.le_refl _)) (daRev da))⟩
    exact ⟨by rw [List.length_reverse]; exact hz, _, rv.reverse, PyProof.Rows.IsTup.new _ _⟩
  | str z => cases hr
  | none => cases hr
  | bool _ => cases hr
  | int _ => cases hr
  | dict _ => cases hr
section
variable {X : Cx} {W : Xw} {C : Cn} {N : Nm}
theorem s_rev {a : CE} {e : Expr} {k : Nat} {p1 p2 p3 pos : Pos} (he : PE X e (tE W X.K C a)) : PE X (.Subscript e (.Slice none none (some (.UnaryOp .USub (.Constant (.int 1) k p1) p2)) p3) pos) (tE W X.K C (.rev a)) := by
  refine PE_imp (pe_revD he) fun σ H Q ⟨G, H0, mu0, mu, s, R, h⟩ => ⟨G, H0, mu0, mu, s, R, ?_⟩
  rw [ev] at h
  refine (Post.bind (Rv := RvE X.K G H0 mu0 σ) bkE h).imp fun v H1 ⟨r, mu1, s1, _, nx, rv, h⟩ => ?_
  cases e1 : s1.res r with
  | none => rw [e1] at h; exact h.elim
  | some d =>
    rw [e1] at h
    dsimp only at h
    cases e2 : revD d with
    | none => rw [e2] at h; exact h.elim
    | some r2 =>
      rw [e2] at h
      exact ⟨_, d, r2, hid_le, rv.w.res nx.rel e1, e2, fun v H' ro => let ⟨nx3, rv3⟩ := RO.nx nx.rel ro; h v mu1 H' nx3 rv3⟩
/-- t.upper() -/
theorem s_upper {a : CE} {x : Str} {px ap pos : Pos} (he : PE X (.Name x px) (tE W X.K C a)) (hl : (ap.endLine == pos.line) = true) : PE X (.Call (.Attribute (.Name x px) "upper" ap) [] [] pos) (tE W X.K C (.mth .upper a .nil)) := by
  refine PE_imp (pe_upper he (hline := hl)) fun σ H Q ⟨G, H0, mu0, mu, s, R, h⟩ => ⟨G, H0, mu0, mu, s, R, ?_⟩
  rw [ev] at h
  refine (Post.bind (Rv := RvE X.K G H0 mu0 σ) bkE h).imp fun v H1 ⟨r, mu1, s1, _, nx, rv, h⟩ => ?_
  simp only [evRs, O.bind, List.mapM_nil] at h
  cases e1 : s1.res r with
  | none => rw [e1] at h; exact h.elim
  | some d =>
    rw [e1] at h
    have rd := rv.w.res nx.rel e1
    cases d with
    | str z =>
      simp only [mthD] at h
      by_cases hz : z.length ≤ 5592405
      · have h : Post W X.K G H0 mu0 σ (RvE X.K G H0 mu0 σ) mu1 s1 H1 (O.of ((if z.length ≤ 5592405 then some (PyData.str (Txt.upper z)) else none).map .dat) s1) Q := h
        rw [if_pos hz] at h
        exact ⟨⟨z, rd.str⟩, z, rd.str, rfl, hz, h.pure nx.rel (.str _)⟩
      · have h : Post W X.K G H0 mu0 σ (RvE X.K G H0 mu0 σ) mu1 s1 H1 (O.of ((if z.length ≤ 5592405 then some (PyData.str (Txt.upper z)) else none).map .dat) s1) Q := h
        rw [if_neg hz] at h
        exact h.elim
    | list xs => exact h.elim
    | tuple xs => exact h.elim
    | none => exact h.elim
    | bool _ => exact h.elim
    | int _ => exact h.elim
    | dict _ => exact h.elim
end
end Pur
end
section
set_option Elab.async false
set_option linter.all false
set_option maxHeartbeats 2000000
namespace Pur
open PySem PySem.Spec L2 PyProof.Rows
/-! ### [a, b, ..].count(True) -/
theorem boolsD_eq : ∀ {xs : List D} {bs : List Bool}, boolsD xs = some bs → xs = bs.map .bool
  | [], bs, h => by cases h; rfl
  | x :: xs, bs, h => by
    cases x with
    | bool b =>
      rw [boolsD] at h
      cases e : boolsD xs with
      | none => rw [e] at h; cases h
      | some cs =>
        rw [e] at h
        cases h
        rw [boolsD_eq e]; rfl
    | _ => cases h
def tCntB (K : Fg) (te : TE) (k : Bool) : TE := fun σ H Q => te σ H fun x H1 => ∃ (p : Addr) (bs : List Bool), x = .ref p ∧ SqL K H1 p (bs.map V.bl) ∧ Q (.int (bs.count k : Nat)) H1
theorem cnt_bool (k : Bool) : ∀ bs : List Bool, (bs.map Value.bool).countP (isBoolOf k) = bs.count k
  | [] => rfl
  | b :: bs => by
    rw [List.map_cons, List.countP_cons, List.count_cons, cnt_bool k bs]
    rfl
theorem pe_lcountB {X : Cx} {o : Expr} {to : TE} {apos cpos cp : Pos} {k : Bool} {kk : Nat} (ho : PE X o to) (hbase : attributeBase o "count" X.env (eval o X.env) = eval o X.env := by rfl)
    (hline : (apos.endLine == cpos.line) = true := by rfl) :
    PE X (.Call (.Attribute o "count" apos) [.Constant (.bool k) kk cp] [] cpos) (tCntB X.K to k) := by
  have hs : starEach [.Constant (.bool k) kk cp] X.env = (false, eval (.Constant (.bool k) kk cp) X.env) :: starEach [] X.env := by rfl
  have hfew : ((backTo cpos (starEach [.Constant (.bool k) kk cp] X.env)).all (fun x => !x.1) && (backToKw cpos (keywordEach [] X.env)).all (fun x => x.1.isSome)
      && decide (([.Constant (.bool k) kk cp] : List Expr).length + ([] : List Keyword).length + (if ([] : List Keyword).isEmpty then 0 else 1) < 30)) = true := by rfl
  have hplain : (backTo cpos (starEach [] X.env)).any (·.1) = false := by rfl
  refine ⟨fun pins s σ H Q I h => ?_⟩
  refine wpAny_Call_method_late hbase hfew hline rfl (thn (ho.run pins s σ H _ I h) fun v s1 ⟨x, H1, I1, r1, p, bs, ex, hl, q⟩ => ?_)
  subst ex
  obtain ⟨h1, h2⟩ := tyV_is (T := "list") I1 r1 (.inl ⟨rfl, _, hl⟩)
  refine ⟨"list", _, PySem.F.plainAttrs_list, PySem.F.slot_list_count, PySem.F.type_list_count, h1, h2, ?_⟩
  rw [hs]
  refine Calls.callWith_builtin (by show (false || (backTo cpos (starEach [] X.env)).any (·.1)) = false; rw [hplain] <;> rfl) (Calls.evalArgs_plain ?_)
  show wpAny _ _ (spliced ((false, eval (.Constant (.bool k) kk cp) X.env) :: backTo cpos (starEach [] X.env))) _ _ s1
  refine Calls.spliced_cons (thn (pe_bl.run pins s1 σ H1 (fun y H2 => y = V.bl k ∧ H2 = H1) I1 ⟨rfl, rfl⟩) fun u s2 ⟨y, H2, I2, ry, ey, e2⟩ => ?_)
  subst ey
  subst e2
  refine Calls.spliced_nil ?_
  cases (show v = Value.ref p from r1)
  cases (show u = Value.bool k from ry)
  obtain ⟨its, rv, ⟨⟨cls, dd, data, sl⟩, n, hob, hc, hdn, hd⟩, hlen⟩ := I2.list hl
  simp only at hc hd
  subst hc hd
  have hi := Vals.bls rv
  subst hi
  refine call_meets PySem.F.slot_list_count ⟨_, hob, rfl⟩ PySem.F.entry_list_count (PySem.F.args_list_count_2 _ _)
    (SeqAt.list_countAt p (bs.map Value.bool).toArray n dd sl (.bool k) (isBoolOf k)) ⟨hob, fun y hy => ?_, ?_⟩
  · have hy : y ∈ bs.map Value.bool := by simpa using hy
    obtain ⟨b, _, rfl⟩ := List.mem_map.mp hy
    exact SeqAt.EqAt.bool_bool b k
  · refine ⟨.int (bs.count k : Nat), _, I2.tok _, ⟨s2.toks, ?_⟩, q⟩
    rw [show (bs.map Value.bool).toArray.toList = bs.map Value.bool from rfl, cnt_bool]
theorem dpA_bools {K : Fg} {M : Hp} : ∀ {bs : List Bool} {ws : List V}, DpAll K M ws (bs.map .bool) → ws = bs.map V.bl
  | [], ws, h => by cases h; rfl
  | b :: bs, ws, h => by
    rw [List.map_cons] at h
    cases h with
    | cons h1 h2 =>
      cases h1
      rw [dpA_bools h2]; rfl
section
variable {X : Cx} {W : Xw} {C : Cn}
theorem s_count {a : CE} {xs : List Expr} {k : Bool} {kk : Nat} {px ap pos cp : Pos} (he : PE X (.List xs px) (tE W X.K C a)) (hl : (ap.endLine == pos.line) = true) : PE X (.Call (.Attribute (.List xs px) "count" ap) [.Constant (.bool k) kk cp] [] pos) (tE W X.K C (.mth .count a (.cons (.lit (.bool k)) .nil))) := by
  refine PE_imp (pe_lcountB he (hline := hl)) fun σ H Q ⟨G, H0, mu0, mu, s, R, h⟩ => ⟨G, H0, mu0, mu, s, R, ?_⟩
  rw [ev] at h
  refine (Post.bind (Rv := RvE X.K G H0 mu0 σ) bkE h).imp fun v H1 ⟨r, mu1, s1, _, nx, rv, h⟩ => ?_
  simp only [evRs, ev, O.bind] at h
  cases e1 : s1.res r with
  | none => rw [e1] at h; exact h.elim
  | some d =>
    rw [e1] at h
    have rd := rv.w.res nx.rel e1
    cases d with
    | list ys =>
      have h2 : Post W X.K G H0 mu0 σ (RvE X.K G H0 mu0 σ) mu1 s1 H1 (O.of (((boolsD ys).map fun bs => PyData.int (bs.count k : Nat)).map .dat) s1) Q := h
      clear h
      cases e2 : boolsD ys with
      | none => rw [e2] at h2; exact h2.elim
      | some bs =>
        rw [e2] at h2
        have ey := boolsD_eq e2
        subst ey
        obtain ⟨p, ws, rfl, sl, da⟩ := rd.lst hid_le
        have ew := dpA_bools da
        subst ew
        exact ⟨p, bs, rfl, sl, h2.pure nx.rel (.int _)⟩
    | str z => exact h.elim
    | tuple xs => exact h.elim
    | none => exact h.elim
    | bool _ => exact h.elim
    | int _ => exact h.elim
    | dict _ => exact h.elim
end
end Pur
end
section
set_option Elab.async false
set_option linter.all false
set_option maxHeartbeats 1000000
namespace Pur
open PySem PySem.Spec L2 PyProof.Rows
/-! ### calls of the text's own defs -/
abbrev noX : CXT := fun _ _ _ _ _ _ => False
/-- a def's promise, where no guard stands around -/
structure FnG (P : Program) (w : World) (K : Fg) (mg : Str → Option Value) (base : Heap) (k : Nat) (f : Addr) (fd : FuncData) (ps : List Str) (sp : Sp) : Prop where
  len : ∀ vs H Q E, sp vs H Q E → vs.length = ps.length
  run : ∀ (A : Around) (outer : List Env) (s : Shared) (H : Hp) (args : Args) (us : List Value) (vs : List V) (Q : VK) (E : XK), Room k A → A.guards = some [] → Env0 P w K mg base A outer s H → BindsTo s fd args (ps.zip us) → Vals vs us → sp vs H Q E →
    codeAny (model P w) A (.call (.ref f) args) (CR noX outer P w H s Q E) s
/-- a def by its body -/
theorem fn_ofG {P : Program} {w : World} {K : Fg} {mg : Str → Option Value} {base : Heap} {k : Nat} {f : Addr} {name qual : Str} {params : Arguments} {body : List Stmt} {scope : Scope} {dV kV doc pm cdv ct oc : Value} {an od : Option Addr}
    {osl : Array (Option Value)} {N ps : List Str} {sp : Sp} (lk : K.lookup f = some ⟨oc, od, .func (PySem.W.fnOf name qual params body scope dV kV doc pm an cdv ct), osl⟩) (hcd : PySem.W.codeIn K cdv qual = true) (S : FnScope N ps scope)
    (len : ∀ vs H Q E, sp vs H Q E → vs.length = ps.length)
    (hbody : ∀ (A : Around) (outer : List Env) (s : Shared) (H : Hp) (vs : List V) (Q : VK) (E : XK), Room k (A.deeper (envOfC qual scope s.heap.objs.size f cdv)) → A.guards = some [] → sp vs H Q E →
      ∃ t, PSs (cxOf noX P w K mg base N qual scope f cdv A outer s H E).nox body t ∧ t { nx := fun _ H' => Q .non H', rt := Q } (start N vs) H) :
    FnG P w K mg base (k + 1) f (PySem.W.fnOf name qual params body scope dV kV doc pm an cdv ct) ps sp := by
  refine ⟨len, fun A outer s H args us vs Q E room hg e0 hb r hsp => ?_⟩
  have heldK : K.In s.heap := e0.mod.kin.keeps fun b o e => (e0.bs b o e).1
  have noLim : s.heap.NoLimit := e0.mod.nolimit.keeps fun b o e => (e0.bs b o e).1
  have kinds : ∀ y ∈ ps.zip us, scope.names.lookup y.1 = some .local ∨ (scope.names.lookup y.1 = some .cell ∧ ((cellsFrom (s.heap.objs.size + 1) scope.names []).lookup y.1).isSome = true) := fun y hy => by
    rcases S.par y.1 (List.of_mem_zip (a := y.1) (b := y.2) hy).1 with q | q
    · exact .inl q
    · exact .inr ⟨q, PySem.W.cellsFrom_some _ _ _ (.inl q)⟩
  refine codeAny_call_function room.depth (heldK _ _ lk) rfl S.co S.gen rfl (PySem.W.codeRec_of heldK hcd) (hb _ _ _ _ ?_)
  refine wpAny_newFunctionEnv_cells S.kind kinds fun env1 he1 s1 x => ?_
  subst he1
  refine ⟨noLim.keeps x.toInCall.keep, codeAny_func ?_⟩
  obtain ⟨t, ht, hq⟩ := hbody A outer s H vs Q E (room.deeper _) hg hsp
  have I : Inv (cxOf noX P w K mg base N qual scope f cdv A outer s H E) [] (start N vs) H s1 := inv_start S room.hd e0 (len _ _ _ _ hsp) r x
  refine wpAny_mono (ht.nox.run [] s1 (start N vs) H _ I hq) (fun fl s' hs => ?_) fun e s' hs => hs
  cases fl with
  | ret u =>
    obtain ⟨v, σ', H', J, rv, q⟩ := hs
    exact ⟨v, H', J.os, J.bare, J.base, J.hok, rv, q⟩
  | next =>
    obtain ⟨σ', H', J, q⟩ := hs
    exact ⟨V.non, H', J.os, J.bare, J.base, J.hok, rfl, q⟩
  | brk => obtain ⟨_, _, _, q⟩ := hs; exact q.elim
  | cont => obtain ⟨_, _, _, q⟩ := hs; exact q.elim
theorem run_fnG {X : Cx} {pins : List (Addr × Obj)} {σ : St} {H : Hp} {s : Shared} {Q : VK} {E : XK} {args : Args} {zs : List Value} {vs : List V} {k : Nat} {f : Addr} {fd : FuncData} {ps : List Str} {sp : Sp} (F : FnG X.prog X.w X.K X.mg X.base k f fd ps sp) (room : Room k X.A) (hg : X.A.guards = some [])
    (hb : BindsTo s fd args (ps.zip zs)) (I : Inv X pins σ H s) (r : Vals vs zs) (h : sp vs H Q E) : wpAny (model X.prog X.w) X.A (call (.ref f) args.pos args.kw) (EP X pins σ Q) X.xe s := by
  refine wpAny_call (codeAny_mono (F.run X.A X.stack s H ⟨args.pos, args.kw⟩ zs vs Q E room hg I.env0 hb r h) fun r s' hq => ?_)
  cases r with
  | error e => exact False.elim hq
  | ok fl =>
    cases fl with
    | ret u => exact I.after hq
    | next => exact False.elim hq
    | brk => exact False.elim hq
    | cont => exact False.elim hq
/-! ### the state as a callee sees it -/
section
variable {K : Fg} {G G' Gc Gd : Addr → Prop} {H0 H H' H1 H2 Hb : Hp} {mu0 mu mu' mu1 mu2 muS : List Addr} {s s' s1 s2 sS : Sg} {σ σ' σ1 σ2 σS : St} {v : V} {st st' : Sto}
def cal (G : Addr → Prop) (env : List EV) (σ : St) : Addr → Prop := fun a => G a ∨ ownA env σ a
theorem no_own {a : Addr} {σ : St} : ¬ ownA [] σ a := fun ⟨i, xs, h, _⟩ => by
  unfold OwnAt at h
  simp at h
theorem hid_cal {env : List EV} (h : ∀ a, Gc a ↔ cal G env σ a) : hid Gc [] [] H = hid G env σ H := by
  have e : (fun a => Gc a ∨ ownA [] ([] : St) a) = fun a => G a ∨ ownA env σ a := funext fun a => propext ⟨fun z => z.elim (h a).mp fun z => (no_own z).elim, fun z => .inl ((h a).mpr z)⟩
  unfold hid
  rw [e]
theorem Rel.callee (R : Rel K G H0 mu0 mu s σ H) : Rel K (cal G s.env σ) H mu mu ⟨[], s.sto⟩ [] H where
  len := rfl
  slots := fun i e q => by simp at q
  inj := fun i j xs ys a h1 _ _ _ => by unfold OwnAt at h1; simp at h1
  stl := R.stl
  sto := fun n kvs a q1 q2 => by
    obtain ⟨vs, e1, e2⟩ := R.sto n kvs a q1 q2
    exact ⟨vs, e1, by rw [hid_cal fun _ => Iff.rfl]; exact e2⟩
  nd := R.nd
  dom := fun a z => by
    rcases z with z | z
    · obtain ⟨h1, h2, h3⟩ := R.dom a z
      exact ⟨h1, no_own, h3⟩
    · obtain ⟨vs, e⟩ := R.ownH z
      refine ⟨(by rw [e]; intro w; cases w), no_own, fun m => ?_⟩
      obtain ⟨n, hn, rfl⟩ := List.mem_iff_getElem.mp m
      obtain ⟨_, vs', _, e', _⟩ := R.muH (List.getElem?_eq_getElem hn)
      rw [e] at e'; cases e'
  ext := fun _ _ e _ => e
  new := fun a z => (no_own z).elim
  pre := ⟨[], by simp, fun a z => absurd z (by simp)⟩
theorem Rel.back (R : Rel K G H0 mu0 mu s σ H) (R' : Rel K Gd H mu mu' ⟨[], st'⟩ [] H') (hG : ∀ a, Gd a ↔ cal G' s.env σ a) (hno : ∀ a, G' a → ¬ ownA s.env σ a) (t : Tm (hid G s.env σ H) (hid G' s.env σ H')) (ho : ∀ a, ownA s.env σ a → H' a = H a) :
    Rel K G' H0 mu0 mu' { s with sto := st' } σ H' where
  len := R.len
  slots := fun i e q => by
    obtain ⟨o, e1, e2⟩ := R.slots i e q
    refine ⟨o, e1, EvR.mono t (fun a xs z1 z2 => ho a ?_) (fun n a z => ?_) e2⟩
    · subst z1
      rcases z2 with z | z
      · subst z; exact ⟨i, xs, .inl q, e1⟩
      · subst z; exact ⟨i, xs, .inr q, e1⟩
    · obtain ⟨m, rfl, _⟩ := R'.pre
      obtain ⟨hn, _⟩ := List.getElem?_eq_some_iff.mp z
      rw [List.getElem?_append_left hn]; exact z
  inj := R.inj
  stl := R'.stl
  sto := fun n kvs a q1 q2 => by
    obtain ⟨vs, e1, e2⟩ := R'.sto n kvs a q1 q2
    exact ⟨vs, e1, by rw [← hid_cal hG]; exact e2⟩
  nd := R'.nd
  dom := fun a z => by
    obtain ⟨h1, _, h3⟩ := R'.dom a ((hG a).mpr (.inl z))
    exact ⟨h1, hno a z, h3⟩
  ext := fun a o e n => by
    refine R'.ext a o (R.ext a o e n) fun m => ?_
    obtain ⟨m0, rfl, hm⟩ := R.pre
    rcases List.mem_append.mp m with z | z
    · exact n z
    · rw [hm a z] at e; cases e
  new := R.new
  pre := by
    obtain ⟨m, rfl, hm⟩ := R.pre
    obtain ⟨m', rfl, hm'⟩ := R'.pre
    refine ⟨m ++ m', by rw [List.append_assoc], fun a z => ?_⟩
    rcases List.mem_append.mp z with z | z
    · exact hm a z
    · exact R.h0 (hm' a z)
theorem Nx.back (R : Rel K G H0 mu0 mu s σ H) (nx : Nx K (cal G s.env σ) H mu mu ⟨[], s.sto⟩ [] H mu' ⟨[], st'⟩ [] H') : Nx K G H0 mu0 mu s σ H mu' { s with sto := st' } σ H' := by
  have t : Tm (hid G s.env σ H) (hid G s.env σ H') := by
    have := nx.tm
    rw [hid_cal fun _ => Iff.rfl] at this
    rw [hid_cal fun _ => Iff.rfl] at this
    exact this
  refine ⟨R.back nx.rel (fun _ => Iff.rfl) (fun a z => (R.dom a z).2.1) t fun a z => nx.gk a (.inr z), nx.pre, t, nx.dom, fun a z => nx.gk a (.inl z), fun i xs h => ⟨h, fun a z => ⟨z, nx.gk a (.inr ⟨i, xs, .inr h, z⟩)⟩⟩⟩
theorem RVr.fromCallee {r : RV} (R : Rel K G H0 mu0 mu s σ H) (nx : Nx K (cal G s.env σ) H mu mu ⟨[], s.sto⟩ [] H mu' ⟨[], st'⟩ [] H') (h : RVr K (cal G s.env σ) H mu [] H mu' ⟨[], st'⟩ H' r v) : RVr K G H0 mu0 σ H mu' { s with sto := st' } H' r v := by
  cases r with
  | dat d =>
    have h : Dp K (hid (cal G s.env σ) [] [] H') v d := h
    rw [hid_cal fun _ => Iff.rfl] at h
    exact h
  | slot i =>
    have h : ([] : St)[i]? = some (some v) := h
    simp at h
  | loc n => exact h
  | fresh xs =>
    obtain ⟨a, ws, e, q1, q2, q3, q4, R1⟩ := h
    have hG : ∀ b, add1 (cal G s.env σ) a b ↔ cal (add1 G a) s.env σ b := fun b => by
      unfold add1 cal
      constructor
      · rintro ((z | z) | z)
        · exact .inl (.inl z)
        · exact .inr z
        · exact .inl (.inr z)
      · rintro ((z | z) | z)
        · exact .inl (.inl z)
        · exact .inr z
        · exact .inl (.inr z)
    have q4 : DpAll K (hid (add1 (cal G s.env σ) a) [] [] H') ws xs := q4
    rw [hid_cal hG] at q4
    refine ⟨a, ws, e, q1, q2, fun z => q3 (.inl z), q4, R.back R1 hG (fun b z => ?_) (tm_plus (Nx.back R nx).tm fun b z => z.elim .inl fun z => .inr (z ▸ q1)) fun b z => nx.gk b (.inr z)⟩
    rcases z with z | z
    · exact (R.dom b z).2.1
    · subst z; exact R.noOwn q1
theorem RVs.callee {rs : List RV} {vs : List V} (h : RVs K G σ mu s H rs vs) (hr : ∀ r ∈ rs, ∀ i, r ≠ .slot i) : RVs K (cal G s.env σ) [] mu ⟨[], s.sto⟩ H rs vs := by
  induction h with
  | nil => exact .nil
  | @cons r v rs vs p q ih =>
    refine .cons ?_ (ih fun r m => hr r (List.mem_cons_of_mem _ m))
    cases r with
    | slot i => exact absurd rfl (hr _ List.mem_cons_self i)
    | loc n => exact p
    | dat d =>
      show Dp K (hid (cal G s.env σ) [] [] H) v d
      rw [hid_cal fun _ => Iff.rfl]; exact p
    | fresh d =>
      show Dp K (hid (cal G s.env σ) [] [] H) v _
      rw [hid_cal fun _ => Iff.rfl]; exact p
end
/-- what a def of the small language promises -/
def spF (K : Fg) (np : Nat) (call : List RV → Sto → OC) : Sp := fun vs H Q _ => vs.length = np ∧ ∃ G mu st as r st', Rel K G H mu mu ⟨[], st⟩ [] H ∧ RVs K G [] mu ⟨[], st⟩ H as vs ∧ call as st = .ok r st' ∧
  ∀ v mu' H', Nx K G H mu mu ⟨[], st⟩ [] H mu' ⟨[], st'⟩ [] H' → RVr K G H mu [] H mu' ⟨[], st'⟩ H' r v → Q v H'
/-- a default that is an atom -/
def dV : D → Option V
  | .none => some .non
  | .bool b => some (.bl b)
  | .int i => some (.int i)
  | .str x => some (.str x)
  | _ => none
theorem dV_ok {K : Fg} {M : Hp} {d : D} {v : V} (h : dV d = some v) : Dp K M v d := by
  cases d <;> first | (cases h; done) | skip
  · cases h; exact .non
  · cases h; exact .bl _
  · cases h; exact .int _
  · cases h; exact .str _
inductive HowV (K : Fg) (all : List Value) : List (Sum Nat D) → List Value → Prop where
  | nil : HowV K all [] []
  | pos {j : Nat} {u : Value} {how zs} (h : all[j]? = some u) (t : HowV K all how zs) : HowV K all (.inl j :: how) (u :: zs)
  | dft {d : D} {v : V} {u : Value} {how zs} (h : ∀ M, Dp K M v d) (r : RelV v u) (t : HowV K all how zs) : HowV K all (.inr d :: how) (u :: zs)
def BindOk (K : Fg) (fd : FuncData) (ps : List Str) (sh : Shp) : Prop := ∀ (s : Shared) (us ws : List Value), K.In s.heap → us.length = sh.1 → ws.length = sh.2.1.length → ∃ zs, zs.length = ps.length ∧ BindsTo s fd ⟨us, sh.2.1.zip ws⟩ (ps.zip zs) ∧ HowV K (us ++ ws) sh.2.2 zs
def CalG (X : Cx) (C : Cn) (f : Nat) (x : Str) (shs : List Shp) : Prop := ∃ k fa fd ps, FnG X.prog X.w X.K X.mg X.base k fa fd ps (spF X.K ps.length (C.call f)) ∧ Room k X.A ∧ X.mg x = some (.ref fa) ∧ PySem.W.keepIn X.K (.ref fa) = true ∧ ∀ sh ∈ shs, BindOk X.K fd ps sh
/-- all that is asked of a place -/
structure XF (X : Cx) (W : Xw) (C : Cn) (N : Nm) : Prop extends XOk X W C N where
  kd : N.sc.kind = .function
  po : PassesOwn (model X.prog X.w) X.A X.env X.xe
  we : We W
  bl : ∀ b ∈ N.bl, X.mg b = none
  cal : ∀ f x shs, N.fn.lookup f = some (x, shs) → CalG X C f x shs
section
variable {K : Fg} {G : Addr → Prop} {H0 H : Hp} {mu0 mu : List Addr} {s s' : Sg} {σ : St}
theorem vals_get' {vs : List V} {us : List Value} : ∀ {j : Nat} {u : Value}, Vals vs us → us[j]? = some u → ∃ v, vs[j]? = some v ∧ RelV v u := by
  intro j u h
  induction h generalizing j with
  | nil => intro e; simp at e
  | cons r t ih =>
    intro e
    cases j with
    | zero => simp at e; subst e; exact ⟨_, rfl, r⟩
    | succ j => simpa using ih (by simpa using e)
theorem rvs_get {rs : List RV} {vs : List V} : ∀ {j : Nat} {v : V}, RVs K G σ mu s H rs vs → vs[j]? = some v → ∃ r, rs[j]? = some r ∧ RVw K G σ mu s H r v := by
  intro j v h
  induction h generalizing j with
  | nil => intro e; simp at e
  | cons r t ih =>
    intro e
    cases j with
    | zero => simp at e; subst e; exact ⟨_, rfl, r⟩
    | succ j => simpa using ih (by simpa using e)
theorem rvs_len {rs : List RV} {vs : List V} (h : RVs K G σ mu s H rs vs) : rs.length = vs.length := by
  induction h with
  | nil => rfl
  | cons _ _ ih => simp [ih]
theorem rvs_app {rs qs : List RV} {vs zs : List V} (h : RVs K G σ mu s H rs vs) (g : RVs K G σ mu s H qs zs) : RVs K G σ mu s H (rs ++ qs) (vs ++ zs) := by
  induction h with
  | nil => exact g
  | cons r _ ih => exact .cons r ih
/-- the parameters' values -/
theorem how_ok {all : List Value} {vs : List V} {rs as : List RV} (hv : Vals vs all) (hr : RVs K G σ mu s H rs vs) : ∀ {how : List (Sum Nat PyData)} {zs : List Value} {as : List RV}, HowV K all how zs → argsOf rs how = some as → ∃ xs, Vals xs zs ∧ RVs K G σ mu s H as xs
  | _, _, _, .nil, e => by cases e; exact ⟨[], .nil, .nil⟩
  | _, _, _, .pos (j := j) (how := how) h t, e => by
    unfold argsOf at e
    split at e
    · rename_i a b e1 e2
      cases e
      obtain ⟨xs, q1, q2⟩ := how_ok hv hr t e2 (as := b)
      obtain ⟨v, e3, r⟩ := vals_get' hv h
      obtain ⟨r', e4, w⟩ := rvs_get hr e3
      rw [e1] at e4; cases e4
      exact ⟨v :: xs, .cons r q1, .cons w q2⟩
    · cases e
  | _, _, _, .dft (how := how) (d := d) h r t, e => by
    unfold argsOf at e
    obtain ⟨b, e2, rfl⟩ := Option.map_eq_some_iff.mp e
    obtain ⟨xs, q1, q2⟩ := how_ok hv hr t e2 (as := b)
    exact ⟨_ :: xs, .cons r q1, .cons (h _) q2⟩
theorem argsOf_slot {rs : List RV} (hr : ∀ r ∈ rs, ∀ i, r ≠ .slot i) : ∀ {how : List (Sum Nat PyData)} {as : List RV}, argsOf rs how = some as → ∀ r ∈ as, ∀ i, r ≠ .slot i
  | [], _, e => by cases e; intro r m; simp at m
  | .inl j :: how, _, e => by
    unfold argsOf at e
    split at e
    · rename_i a b e1 e2
      cases e
      intro r m
      rcases List.mem_cons.mp m with z | z
      · subst z; exact hr r (List.mem_of_getElem? e1)
      · exact argsOf_slot hr e2 r z
    · cases e
  | .inr d :: how, _, e => by
    unfold argsOf at e
    obtain ⟨b, e2, rfl⟩ := Option.map_eq_some_iff.mp e
    intro r m
    rcases List.mem_cons.mp m with z | z
    · subst z; intro i q; cases q
    · exact argsOf_slot hr e2 r z
theorem esc_ns {r q : RV} {s s1 : Sg} (e : s.esc r = .ok q s1) (i : Nat) : q ≠ .slot i := by
  unfold Sg.esc at e
  intro z
  subst z
  split at e
  · cases e
  · cases e
  · split at e <;> cases e
  · cases e
theorem evKs_ok {C : Cn} : ∀ {cs : CEs} {s s' : Sg} {rs : List RV}, evKs C cs s = .ok rs s' → rs.length = cs.len ∧ ∀ r ∈ rs, ∀ i, r ≠ .slot i
  | .nil, _, _, _, e => by cases e; exact ⟨rfl, fun r m => absurd m (by simp)⟩
  | .cons c cs, s, s', rs, e => by
    rw [evKs] at e
    cases e1 : ev C c s with
    | stuck => rw [e1] at e; cases e
    | exc c fs s1 => rw [e1] at e; cases e
    | ok r s1 =>
      rw [e1] at e
      simp only [O.bind] at e
      cases e2 : s1.esc r with
      | stuck => rw [e2] at e; cases e
      | exc c fs s1 => rw [e2] at e; cases e
      | ok q s2 =>
        rw [e2] at e
        simp only at e
        cases e3 : evKs C cs s2 with
        | stuck => rw [e3] at e; cases e
        | exc c fs s1 => rw [e3] at e; cases e
        | ok qs s3 =>
          rw [e3] at e
          cases e
          obtain ⟨h1, h2⟩ := evKs_ok e3
          refine ⟨by simp [CEs.len, h1], fun r m => ?_⟩
          rcases List.mem_cons.mp m with z | z
          · subst z; exact esc_ns e2
          · exact h2 r z
end
section
variable {X : Cx} {W : Xw} {C : Cn} {N : Nm}
theorem PK_imp {kws : List Keyword} {t t' : TA} (h : PK X kws t) (q : ∀ σ H Q, t' σ H Q → t σ H Q) : PK X kws t' := ⟨fun pos pins s σ H Q I z => h.run pos pins s σ H Q I (q σ H Q z)⟩
theorem k_nil : PK X [] (tKs W X.K C .nil) := PK_imp pk_nil fun σ H Q ⟨G, H0, mu0, mu, s, R, h⟩ => h.pure (Rv := RvK X.K G σ) R Paired.nil
theorem k_cons {c : CE} {cs : CEs} {e : Expr} {kws : List Keyword} {nm : Option Str} {p : Pos} (he : PE X e (tE W X.K C c)) (hs : PK X kws (tKs W X.K C cs)) : PK X (⟨nm, e, p⟩ :: kws) (tKs W X.K C (.cons c cs)) := by
  refine PK_imp (pk_cons he hs) fun σ H Q ⟨G, H0, mu0, mu, s, R, h⟩ => ⟨G, H0, mu0, mu, s, R, ?_⟩
  rw [evKs] at h
  refine (Post.bind (Rv := RvE X.K G H0 mu0 σ) bkK h).imp fun v H1 ⟨r, mu1, s1, _, nx, rv, h⟩ => ?_
  cases q : s1.esc r with
  | exc c fs s2 => exact (esc_noexc q).elim
  | stuck => rw [q] at h; exact h.elim
  | ok d s2 =>
    rw [q] at h
    obtain ⟨nx2, dp⟩ := esc_nx nx.rel rv.w q
    have h := Post.on bkK nx2 h
    refine ⟨G, H0, mu0, mu1, s2, nx2.rel, ?_⟩
    refine (Post.bind (Rv := RvK X.K G σ) bkK h).imp fun vs H3 ⟨ds, mu3, s3, _, nx3, rv3, h⟩ => ?_
    exact h.pure nx3.rel (Paired.cons (dp.keep nx3) rv3)
theorem kw_all {kws : List Keyword} {env : Env} {pos : Pos} (h : kws.all (·.arg.isSome) = true) : (backToKw pos (keywordEach kws env)).all (·.1.isSome) = true ∧ (backToKw pos (keywordEach kws env)).any (·.1.isNone) = false ∧ (backToKw pos (keywordEach kws env)).filterMap (·.1) = kws.filterMap (·.arg) := by
  induction kws with
  | nil => exact ⟨rfl, rfl, rfl⟩
  | cons k kws ih =>
    rw [List.all_cons, Bool.and_eq_true] at h
    obtain ⟨i1, i2, i3⟩ := ih h.2
    obtain ⟨a, e, p⟩ := k
    have ha : a.isSome = true := h.1
    obtain ⟨x, rfl⟩ := Option.isSome_iff_exists.mp ha
    refine ⟨?_, ?_, ?_⟩
    · show (true && (backToKw pos (keywordEach kws env)).all (·.1.isSome)) = true
      rw [i1]; rfl
    · show (false || (backToKw pos (keywordEach kws env)).any (·.1.isNone)) = false
      rw [i2]; rfl
    · show x :: (backToKw pos (keywordEach kws env)).filterMap (·.1) = x :: kws.filterMap (·.arg)
      rw [i3]
theorem star_any {es : List Expr} {env : Env} {pos : Pos} (h : es.all noStar = true) : (backTo pos (starEach es env)).any (·.1) = false := by
  induction es with
  | nil => rfl
  | cons e es ih =>
    rw [List.all_cons, Bool.and_eq_true] at h
    rw [star_cons h.1]
    show (false || (backTo pos (starEach es env)).any (·.1)) = false
    rw [ih h.2]; rfl
/-- f(.., k = ..) -/
theorem s_call (ok : XF X W C N) {f : Nat} {x : Str} {shs : List Shp} {cs ks : CEs} {how : List (Sum Nat PyData)} {es : List Expr} {kws : List Keyword} {p pos : Pos} (hf : N.fn.lookup f = some (x, shs)) (hsh : (es.length, kws.filterMap (·.arg), how) ∈ shs) (hg : glB N.sc x = true) (hx : dbg x = true)
    (h : SndL X W C cs es) (hk : PK X kws (tKs W X.K C ks)) (hkl : ks.len = kws.length) (hka : kws.all (·.arg.isSome) = true) : PE X (.Call (.Name x p) es kws pos) (tE W X.K C (.call f cs ks how)) := by
  obtain ⟨k, fa, fd, ps, F, room, hmg, hkeep, hb⟩ := ok.cal f x shs hf
  have gl := glB_ok ok.toXOk hg
  have hbo := hb _ hsh
  have kwl : (kws.filterMap (·.arg)).length = kws.length := by
    clear hk hkl hsh hbo
    induction kws with
    | nil => rfl
    | cons q kws ih =>
      rw [List.all_cons, Bool.and_eq_true] at hka
      obtain ⟨a, e, p⟩ := q
      have ha : a.isSome = true := hka.1
      obtain ⟨x, rfl⟩ := Option.isSome_iff_exists.mp ha
      simp only [List.filterMap_cons, List.length_cons, ih hka.2]
  -- the callee, once the values stand
  have callK : ∀ {pins : List (Addr × Obj)} {s : Shared} {σ : St} {H2 : Hp} {Q : VK} {us ws : List Value} {vs zs : List V} {G H0 mu0 mu2 s2} {rs qs : List RV}, Inv X pins σ H2 s → Vals vs us → Vals zs ws → us.length = es.length → ws.length = kws.length → Rel X.K G H0 mu0 mu2 s2 σ H2 →
      RVs X.K G σ mu2 s2 H2 rs vs → RVs X.K G σ mu2 s2 H2 qs zs → (∀ r ∈ rs ++ qs, ∀ i, r ≠ .slot i) → Post W X.K G H0 mu0 σ (RvE X.K G H0 mu0 σ) mu2 s2 H2 (match argsOf (rs ++ qs) how with | some as => .up (C.call f as s2.sto) s2 | none => .stuck) Q →
      wpAny (model X.prog X.w) X.A (call (.ref fa) us ((kws.filterMap (·.arg)).zip ws)) (EP X pins σ Q) X.xe s := fun {pins s σ H2 Q us ws vs zs G H0 mu0 mu2 s2 rs qs} I r1 r2 l1 l2 R w1 w2 hns hp => by
    obtain ⟨zz, lz, bz, hz⟩ := hbo s us ws I.kIn l1 (l2.trans kwl.symm)
    cases ea : argsOf (rs ++ qs) how with
    | none => rw [ea] at hp; exact hp.elim
    | some as =>
      rw [ea] at hp
      dsimp only at hp
      obtain ⟨xs, v1, v2⟩ := how_ok (as := as) (r1.append r2) (rvs_app w1 w2) hz ea
      cases ec : C.call f as s2.sto with
      | stuck => rw [ec] at hp; exact hp.elim
      | exc c fs st => rw [ec] at hp; exact hp.elim
      | ok r st' =>
        rw [ec] at hp
        refine run_fnG (E := fun _ _ _ => False) F room ok.gd bz I v1 ⟨by rw [v1.length, lz], cal G s2.env σ, mu2, s2.sto, as, r, st', R.callee, RVs.callee v2 (argsOf_slot hns ea), ec, fun v mu' H' nx rr => ?_⟩
        exact hp v mu' H' (Nx.back R nx) (RVr.fromCallee R nx rr)
  obtain ⟨ka, kn, kf⟩ := kw_all (env := X.env) (pos := pos) hka
  refine ⟨fun pins s σ H Q I ⟨G, H0, mu0, mu, s0, R, z⟩ => ?_⟩
  rw [ev] at z
  refine wpAny_Call_Name_kw (ld_glob I gl hmg ?_ (dbg_ok hx).1)
  cases es with
  | nil =>
    cases cs with
    | cons _ _ => have := h.len; simp [CEs.len] at this
    | nil =>
      have z : Post W X.K G H0 mu0 σ (RvE X.K G H0 mu0 σ) mu s0 H ((evKs C ks s0).bind fun qs s2 => match argsOf ([] ++ qs) how with | some as => .up (C.call f as s2.sto) s2 | none => .stuck) Q := z
      refine PySem.W.callWith_KW0 (h₀ := X.base) I.ok.mod.kin hkeep ka ?_ (by rw [kn]; rfl)
      have z2 := Post.bind (Rv := RvK X.K G σ) bkE z
      refine thn (hk.run pos pins s σ H _ I ⟨G, H0, mu0, mu, s0, R, z2⟩) fun ws sB ⟨zs, H2, I2, r2, qs, mu2, s2, e2, nx2, w2, z⟩ => ⟨I2.kIn, ?_⟩
      rw [kf]
      obtain ⟨lb, nb⟩ := evKs_ok e2
      have l2 : ws.length = kws.length := by rw [← r2.length, ← rvs_len w2, lb, hkl]
      exact callK (us := []) (rs := []) I2 .nil r2 rfl l2 nx2.rel .nil w2 (fun r m => nb r (by simpa using m)) z
  | cons e es =>
    have hns := h.ns
    rw [List.all_cons, Bool.and_eq_true] at hns
    refine PySem.W.callWith_KW (h₀ := X.base) I.ok.mod.kin hkeep ka ?_ (by rw [star_any h.ns, kn]; rfl) (star_cons hns.1)
    have z1 := Post.bind (Rv := RvK X.K G σ) bkE z
    refine thn (h.ks.run pos pins s σ H _ I ⟨G, H0, mu0, mu, s0, R, z1⟩) fun us sA ⟨vs, H1, I1, r1, rs, mu1, s1, e1, nx1, w1, z⟩ => ?_
    have z2 := Post.bind (Rv := RvK X.K G σ) bkE z
    refine thn (hk.run pos pins sA σ H1 _ I1 ⟨G, H0, mu0, mu1, s1, nx1.rel, z2⟩) fun ws sB ⟨zs, H2, I2, r2, qs, mu2, s2, e2, nx2, w2, z⟩ => ⟨I2.kIn, ?_⟩
    rw [kf]
    obtain ⟨la, na⟩ := evKs_ok e1
    obtain ⟨lb, nb⟩ := evKs_ok e2
    have l1 : us.length = (e :: es).length := by rw [← r1.length, ← rvs_len w1, la, h.len]
    have l2 : ws.length = kws.length := by rw [← r2.length, ← rvs_len w2, lb, hkl]
    exact callK I2 r1 r2 l1 l2 nx2.rel (RVs.keep nx2 w1) w2 (fun r m => (List.mem_append.mp m).elim (na r) (nb r)) z
end
end Pur
end
section
set_option Elab.async false
set_option linter.all false
set_option maxHeartbeats 2000000
namespace Pur
open PySem PySem.Spec L2
/-! ### is a tree of the small language the text? -/
def opB : BOp → Operator → Bool
  | .add, .Add | .sub, .Sub | .mul, .Mult | .fdiv, .FloorDiv | .mod, .Mod | .pow, .Pow => true
  | _, _ => false
theorem opB_ok {o : BOp} {p : Operator} (h : opB o p = true) : p = opOf o := by
  cases o <;> cases p <;> first | rfl | (cases h)
def coB : COp → CmpOp → Bool
  | .eq, .Eq | .ne, .NotEq | .lt, .Lt | .le, .LtE | .gt, .Gt | .ge, .GtE | .inn, .In | .nin, .NotIn | .is, .Is | .isn, .IsNot => true
  | _, _ => false
theorem coB_ok {o : COp} {p : CmpOp} (h : coB o p = true) : p = cOf o := by
  cases o <;> cases p <;> first | rfl | (cases h)
def atB : D → D → Bool
  | .none, .none => true
  | .bool a, .bool b => decide (a = b)
  | .int a, .int b => decide (a = b)
  | .str a, .str b => decide (a = b)
  | _, _ => false
theorem atB_ok {a b : D} (h : atB a b = true) : a = b := by
  unfold atB at h
  split at h
  · rfl
  · rw [of_decide_eq_true h]
  · rw [of_decide_eq_true h]
  · rw [of_decide_eq_true h]
  · cases h
mutual
/-- the same tree -/
def eqB : D → D → Bool
  | .none, .none => true
  | .bool a, .bool b => decide (a = b)
  | .int a, .int b => decide (a = b)
  | .str a, .str b => decide (a = b)
  | .list a, .list b => eqBs a b
  | .tuple a, .tuple b => eqBs a b
  | _, _ => false
def eqBs : List D → List D → Bool
  | [], [] => true
  | a :: as, b :: bs => eqB a b && eqBs as bs
  | _, _ => false
end
mutual
theorem eqB_ok : ∀ {a b : D}, eqB a b = true → a = b
  | .none, .none, _ => rfl
  | .bool a, .bool b, h => by unfold eqB at h; rw [of_decide_eq_true h]
  | .int a, .int b, h => by unfold eqB at h; rw [of_decide_eq_true h]
  | .str a, .str b, h => by unfold eqB at h; rw [of_decide_eq_true h]
  | .list a, .list b, h => by unfold eqB at h; rw [eqBs_ok h]
  | .tuple a, .tuple b, h => by unfold eqB at h; rw [eqBs_ok h]
  | .none, .bool _, h | .none, .int _, h | .none, .str _, h | .none, .list _, h | .none, .tuple _, h | .none, .dict _, h => by unfold eqB at h; cases h
  | .bool _, .none, h | .bool _, .int _, h | .bool _, .str _, h | .bool _, .list _, h | .bool _, .tuple _, h | .bool _, .dict _, h => by unfold eqB at h; cases h
  | .int _, .none, h | .int _, .bool _, h | .int _, .str _, h | .int _, .list _, h | .int _, .tuple _, h | .int _, .dict _, h => by unfold eqB at h; cases h
  | .str _, .none, h | .str _, .bool _, h | .str _, .int _, h | .str _, .list _, h | .str _, .tuple _, h | .str _, .dict _, h => by unfold eqB at h; cases h
  | .list _, .none, h | .list _, .bool _, h | .list _, .int _, h | .list _, .str _, h | .list _, .tuple _, h | .list _, .dict _, h => by unfold eqB at h; cases h
  | .tuple _, .none, h | .tuple _, .bool _, h | .tuple _, .int _, h | .tuple _, .str _, h | .tuple _, .list _, h | .tuple _, .dict _, h => by unfold eqB at h; cases h
  | .dict _, .none, h | .dict _, .bool _, h | .dict _, .int _, h | .dict _, .str _, h | .dict _, .list _, h | .dict _, .tuple _, h | .dict _, .dict _, h => by unfold eqB at h; cases h
theorem eqBs_ok : ∀ {a b : List D}, eqBs a b = true → a = b
  | [], [], _ => rfl
  | a :: as, b :: bs, h => by
    unfold eqBs at h
    rw [Bool.and_eq_true] at h
    rw [eqB_ok h.1, eqBs_ok h.2]
  | [], _ :: _, h => by unfold eqBs at h; cases h
  | _ :: _, [], h => by unfold eqBs at h; cases h
end
def howB : List (Sum Nat D) → List (Sum Nat D) → Bool
  | [], [] => true
  | .inl i :: a, .inl j :: b => decide (i = j) && howB a b
  | .inr i :: a, .inr j :: b => eqB i j && howB a b
  | _, _ => false
theorem howB_ok : ∀ {a b : List (Sum Nat D)}, howB a b = true → a = b
  | [], [], _ => rfl
  | .inl i :: a, .inl j :: b, h => by
    unfold howB at h
    rw [Bool.and_eq_true, decide_eq_true_eq] at h
    rw [h.1, howB_ok h.2]
  | .inr i :: a, .inr j :: b, h => by
    unfold howB at h
    rw [Bool.and_eq_true] at h
    rw [eqB_ok h.1, howB_ok h.2]
  | [], .inl _ :: _, h => by cases h
  | [], .inr _ :: _, h => by cases h
  | .inl _ :: _, [], h => by cases h
  | .inr _ :: _, [], h => by cases h
  | .inl _ :: _, .inr _ :: _, h => by cases h
  | .inr _ :: _, .inl _ :: _, h => by cases h
def shB (shs : List Shp) (n : Nat) (ks : List Str) (how : List (Sum Nat D)) : Bool := shs.any fun sh => decide (sh.1 = n) && decide (sh.2.1 = ks) && howB sh.2.2 how
theorem shB_ok {shs : List Shp} {n : Nat} {ks : List Str} {how : List (Sum Nat D)} (h : shB shs n ks how = true) : (n, ks, how) ∈ shs := by
  obtain ⟨sh, m, h⟩ := List.any_eq_true.mp h
  rw [Bool.and_eq_true, Bool.and_eq_true, decide_eq_true_eq, decide_eq_true_eq] at h
  obtain ⟨a, b, c⟩ := sh
  obtain ⟨⟨h1, h2⟩, h3⟩ := h
  have := howB_ok h3
  subst h1 h2 this
  exact m
def keyB : Ky → Option Expr → Bool
  | .inl i, some (.Constant (.int j) _ _) => decide (i = j)
  | .inr x, some (.Constant (.str y) _ _) => decide (x = y)
  | _, _ => false
def allNm (ks : List Keyword) : Bool := ks.all (·.arg.isSome)
/-- the scope of a block -/
def Nm.inn (N : Nm) (scope : Scope) : Nm := { N with sc := relS scope N.sc, blk := some scope }
/-- the block's own names among the slots -/
def ownOf (N : List Str) (vs : List Nat) : List (Str × Nat) := vs.map fun v => (N.getD v Str.empty, v)
theorem glAny {gl : List (Str × D)} {x : Str} {g : D} (h : (gl.any fun p => decide (p.1 = x) && eqB p.2 g) = true) : (x, g) ∈ gl := by
  obtain ⟨⟨y, d⟩, m, e⟩ := List.any_eq_true.mp h
  rw [Bool.and_eq_true, decide_eq_true_eq] at e
  have e1 : y = x := e.1
  have e2 := eqB_ok e.2
  subst e1 e2
  exact m
mutual
def chk : CE → Nm → Expr → Bool
  | .var i, N, e => match e with
    | .Name x _ => nmOk N i x
    | _ => false
  | .lit d, N, e => match e with
    | .Constant c _ _ => chkC d c
    | _ => false
  | .glob y g, N, e => match e with
    | .Name x _ => decide (y = x) && (N.gl.any fun p => decide (p.1 = x) && eqB p.2 g) && glB N.sc x && dbg x
    | _ => false
  | .neg a, N, e => match e with
    | .UnaryOp .USub x _ => chk a N x
    | _ => false
  | .nt a, N, e => match e with
    | .UnaryOp .Not x _ => chk a N x
    | _ => false
  | .and a b, N, e => match e with
    | .BoolOp .And [x, y] _ => chk a N x && chk b N y
    | .BoolOp .And (x :: y :: z :: rest) pos => chk a N x && chk b N (.BoolOp .And (y :: z :: rest) pos)
    | _ => false
  | .or a b, N, e => match e with
    | .BoolOp .Or [x, y] _ => chk a N x && chk b N y
    | .BoolOp .Or (x :: y :: z :: rest) pos => chk a N x && chk b N (.BoolOp .Or (y :: z :: rest) pos)
    | _ => false
  | .bin o a b, N, e => match e with
    | .BinOp x p y _ => opB o p && chk a N x && chk b N y
    | _ => false
  | .cmp o a b, N, e => match e with
    | .Compare x [p] [y] _ => coB o p && !behindInMarks p y && chk a N x && chk b N y
    | _ => false
  | .chain o o2 a b c, N, e => match e with
    | .Compare x [p, p2] [y, z] _ => coB o p && coB o2 p2 && !lastMarks [p, p2] [y, z] && chk a N x && chk b N y && chk c N z
    | _ => false
  | .ite c a b, N, e => match e with
    | .IfExp t x y _ => chk c N t && chk a N x && chk b N y
    | _ => false
  | .tup es, N, e => match e with
    | .Tuple xs _ _ => chks es N xs
    | _ => false
  | .lst es, N, e => match e with
    | .List xs _ => chks es N xs
    | _ => false
  | .sub a i, N, e => match e with
    | .Subscript x y _ => notSl y && chk a N x && chk i N y
    | _ => false
  | .slice a lo hi, N, e => match e with
    | .Subscript x (.Slice l u none _) _ => chk a N x && chkO lo N l && chkO hi N u
    | _ => false
  | .rev a, N, e => match e with
    | .Subscript x (.Slice none none (some (.UnaryOp .USub (.Constant (.int 1) _ _) _)) _) _ => chk a N x
    | _ => false
  | .mth m a es, N, e => match m, es, e with
    | .upper, .nil, .Call (.Attribute (.Name x px) f ap) [] [] pos => decide (f = ("upper" : Str)) && (ap.endLine == pos.line) && chk a N (.Name x px)
    | .count, .cons (.lit (.bool k)) .nil, .Call (.Attribute (.List xs px) f ap) [.Constant (.bool k2) _ _] [] pos => decide (f = ("count" : Str)) && decide (k = k2) && (ap.endLine == pos.line) && chk a N (.List xs px)
    | _, _, _ => false
  | .call f es ks how, N, e => match e with
    | .Call (.Name x _) xs kws _ => (match N.fn.lookup f with
      | some (y, shs) => decide (y = x) && shB shs xs.length (kws.filterMap (·.arg)) how
      | none => false) && glB N.sc x && dbg x && chks es N xs && chkK ks N kws && allNm kws
    | _ => false
  | .bi b es, N, e => match e with
    | .Call (.Name x _) xs [] _ => decide (x = biN b) && N.bl.contains (biN b) && glB N.sc (biN b) && !xs.isEmpty && chks es N xs
    | _ => false
  | .isi a t, N, e => match e with
    | .Call (.Name x _) [y, .Name z _] [] _ => decide (x = ("isinstance" : Str)) && decide (z = Str.ofString (tyN t)) && N.bl.contains ("isinstance" : Str) && N.bl.contains (Str.ofString (tyN t)) && glB N.sc "isinstance" && glB N.sc (Str.ofString (tyN t)) && noStar y && chk a N y
    | _ => false
  | .dict ks es, N, e => match e with
    | .Dict keys vals _ => decide (keys.length ≤ 15) && !keys.isEmpty && chkD ks es N keys vals
    | _ => false
  | .comp tg vs it cond c, N, e => match e with
    | .ListComp elt [⟨t, iter, ifs, 0⟩] scope _ => tg.sl.all (vs.contains ·) && blkC N.N N.sc scope (ownOf N.N vs) && notSet iter && chkI it N t iter && chkT tg (N.inn scope) t && decide (ifs.length ≤ 1) && chkTsts cond (N.inn scope) ifs && chk c (N.inn scope) elt
    | _ => false
  | .app i c, N, e => match e with
    | .Call (.Attribute (.Name x _) f ap) [y] [] pos => decide (f = ("append" : Str)) && nmOk N i x && noStar y && (ap.endLine == pos.line) && chk c N y
    | _ => false
  | .ext i c, N, e => match e with
    | .Call (.Attribute (.Name x _) f ap) [y] [] pos => decide (f = ("extend" : Str)) && nmOk N i x && noStar y && (ap.endLine == pos.line) && chk c N y
    | _ => false
def chkO : CEo → Nm → Option Expr → Bool
  | .no, N, e => e.isNone
  | .yes c, N, e => match e with
    | some x => chk c N x
    | none => false
def chkI : CI → Nm → Expr → Expr → Bool
  | .seq c, N, t, e => chk c N e
  | .range es, N, t, e => match e with
    | .Call (.Name x _) (y :: ys) [] _ => decide (x = ("range" : Str)) && N.bl.contains ("range" : Str) && glB N.sc "range" && decide (ys.length ≤ 2) && chks es N (y :: ys)
    | _ => false
  | .enum k c, N, t, e => match e with
    | .Call (.Name x _) [y] [] _ => decide (k = 0) && isTup t && decide (x = ("enumerate" : Str)) && N.bl.contains ("enumerate" : Str) && glB N.sc "enumerate" && noStar y && chk c N y
    | .Call (.Name x _) [y] [⟨some st, .Constant (.int j) _ _, _⟩] _ => decide (k = j) && okI k && decide (st = ("start" : Str)) && isTup t && decide (x = ("enumerate" : Str)) && N.bl.contains ("enumerate" : Str) && glB N.sc "enumerate" && noStar y && chk c N y
    | _ => false
  | .zip st a b, N, t, e => match e with
    | .Call (.Name x _) [y, z] [] _ => !st && isTup t && decide (x = ("zip" : Str)) && N.bl.contains ("zip" : Str) && glB N.sc "zip" && noStar y && noStar z && chk a N y && chk b N z
    | .Call (.Name x _) [y, z] [⟨some kw, .Constant (.bool true) _ _, _⟩] _ => st && decide (kw = ("strict" : Str)) && isTup t && decide (x = ("zip" : Str)) && N.bl.contains ("zip" : Str) && glB N.sc "zip" && noStar y && noStar z && chk a N y && chk b N z
    | _ => false
def chks : CEs → Nm → List Expr → Bool
  | .nil, N, es => es.isEmpty
  | .cons c cs, N, es => match es with
    | e :: es => noStar e && chk c N e && chks cs N es
    | [] => false
def chkTsts : CEs → Nm → List Expr → Bool
  | .nil, N, es => es.isEmpty
  | .cons c cs, N, es => match es with
    | e :: es => chk c N e && chkTsts cs N es
    | [] => false
def chkK : CEs → Nm → List Keyword → Bool
  | .nil, N, es => es.isEmpty
  | .cons c cs, N, es => match es with
    | k :: es => chk c N k.value && chkK cs N es
    | [] => false
def chkD : List Ky → CEs → Nm → List (Option Expr) → List Expr → Bool
  | ks, .nil, N, keys, vals => ks.isEmpty && keys.isEmpty && vals.isEmpty
  | ks, .cons c cs, N, keys, vals => match ks, keys, vals with
    | k :: ks, ke :: keys, v :: vals => keyB k ke && chk c N v && chkD ks cs N keys vals
    | _, _, _ => false
end
end Pur
end
section
set_option Elab.async false
set_option linter.all false
set_option maxHeartbeats 2000000
namespace Pur
open PySem PySem.Spec L2 PyProof.Rows
theorem mem_c {l : List Str} {x : Str} (h : l.contains x = true) : x ∈ l := by simpa using h
theorem ownOf_map {N : List Str} {vs : List Nat} : (ownOf N vs).map (·.2) = vs := by
  unfold ownOf
  rw [List.map_map]
  exact List.map_id vs
section
variable {X : Cx} {W : Xw} {C : Cn} {N : Nm}
theorem XF.blk (ok : XF X W C N) {scope : Scope} {own : List (Str × Nat)} (bo : BlkOk X.N X.env.scope scope own) (s : Shared) (H : Hp) (A : Addr) (cl : List (Str × Addr)) (fp : List Addr) : XF (X.blk s H scope (compEnvC scope cl A X.env) fp) noW C (N.inn scope) where
  nm := ok.nm
  sc := by
    show relS scope X.env.scope = relS scope N.sc
    rw [ok.sc]
  nd := ok.nd
  calm := ok.calm
  gd := ok.gd
  un := ok.un
  wm := fun _ _ _ _ _ _ _ _ _ _ _ h => h
  st := fun x h => by
    unfold stB at h
    have e : (compEnvC scope cl A X.env).scope = relS scope N.sc := by
      show relS scope X.env.scope = relS scope N.sc
      rw [ok.sc]
    have h : (match (relS scope N.sc).names.lookup x with | some .local => true | some .cell => scope.names.lookup x == some .cell | _ => false) = true := h
    split at h
    · rename_i q
      exact ⟨.inl (by show (compEnvC scope cl A X.env).scope.names.lookup x = _; rw [e]; exact q), .inr (by show (compEnvC scope cl A X.env).scope.names.lookup x = _; rw [e]; exact q)⟩
    · rename_i q
      exact ⟨.inr (by show (compEnvC scope cl A X.env).scope.names.lookup x = _; rw [e]; exact q), .inl h⟩
    · cases h
  gl := ok.gl
  kd := bo.kind
  po := PassesOwn.never
  we := fun _ _ _ _ _ _ _ _ _ _ _ _ h => h
  bl := ok.bl
  cal := ok.cal
theorem s_comp (ok : XF X W C N) {it : CI} {tg : Tg} {vs : List Nat} {cond : CEs} {c : CE} {t iter elt : Expr} {ifs : List Expr} {scope : Scope} {pos : Pos} (hv : tg.sl.all (vs.contains ·) = true) (hb : blkC N.N N.sc scope (ownOf N.N vs) = true) (hs : notSet iter = true) (hi : PI X t iter (tI W X.K C it)) (ht : chkT tg (N.inn scope) t = true)
    (hc : ∀ (s : Shared) (H : Hp) (A : Addr) (cl : List (Str × Addr)) (fp : List Addr), PTs (X.blk s H scope (compEnvC scope cl A X.env) fp) ifs (tTs noW X.K C cond)) (he : ∀ (s : Shared) (H : Hp) (A : Addr) (cl : List (Str × Addr)) (fp : List Addr), PE (X.blk s H scope (compEnvC scope cl A X.env) fp) elt (tE noW X.K C c)) :
    PE X (.ListComp elt [⟨t, iter, ifs, 0⟩] scope pos) (tE W X.K C (.comp tg vs it cond c)) := by
  have bo : BlkOk X.N X.env.scope scope (ownOf N.N vs) := by rw [ok.nm, ok.sc]; exact blkOk_by hb
  refine PE_imp (pe_lc (g := gT X.K tg) ok.calm ok.nd hi bo (fun s H A cl fp => pg_of (ok.blk bo s H A cl fp).toXOk tg t ht) hc he fun _ => fold_no hs) fun σ H Q z => ?_
  rw [ownOf_map]
  exact tLc_of hv z
/-- x = [..] on one line -/
theorem s_compSet (ok : XF X W C N) {it : CI} {tg : Tg} {vs : List Nat} {cond : CEs} {c : CE} {i : Nat} {y : Str} {py spos : Pos} {t iter elt : Expr} {ifs : List Expr} {scope : Scope} {pos : Pos} (hv : tg.sl.all (vs.contains ·) = true) (hb : blkC N.N N.sc scope (ownOf N.N vs) = true) (hs : notSet iter = true) (hi : PI X t iter (tI W X.K C it)) (ht : chkT tg (N.inn scope) t = true)
    (hc : ∀ (s : Shared) (H : Hp) (A : Addr) (cl : List (Str × Addr)) (fp : List Addr), PTs (X.blk s H scope (compEnvC scope cl A X.env) fp) ifs (tTs noW X.K C cond)) (he : ∀ (s : Shared) (H : Hp) (A : Addr) (cl : List (Str × Addr)) (fp : List Addr), PE (X.blk s H scope (compEnvC scope cl A X.env) fp) elt (tE noW X.K C c))
    (hy : N.N[i]? = some y) (hl : N.sc.names.lookup y = some .local) (hp : (py.line == pos.line) = true) (ha : (scope.names.any fun (n, k) => n == y && (k == .local || k == .cell)) = false) :
    PS X (.Assign [.Name y py] (.ListComp elt [⟨t, iter, ifs, 0⟩] scope pos) spos) (tS W X.K C (.asg (.nm i) (.comp tg vs it cond c))) := by
  have bo : BlkOk X.N X.env.scope scope (ownOf N.N vs) := by rw [ok.nm, ok.sc]; exact blkOk_by hb
  have hl' : X.env.scope.names.lookup y = some .local := by rw [ok.sc]; exact hl
  refine PS_imp (ps_setLc (g := gT X.K tg) ok.calm ok.nd (by rw [ok.nm]; exact hy) hl' (sw_true (by rw [ok.sc]; exact ok.kd) hl' hp ha) hi bo (fun s H A cl fp => pg_of (ok.blk bo s H A cl fp).toXOk tg t ht) hc he fun _ => fold_no hs) fun D σ H ⟨G, H0, mu0, mu, s, R, h⟩ => ?_
  rw [ownOf_map]
  refine tLc_of (W := W) hv ⟨G, H0, mu0, mu, s, R, ?_⟩
  rw [ex] at h
  cases em : ev C (.comp tg vs it cond c) s with
  | stuck => rw [em] at h; exact h.elim
  | exc cc fs s1 => rw [em] at h; exact fun mu' H' nx => h mu' σ H' nx
  | ok r s1 =>
    rw [em] at h
    intro v mu1 H1 nx rv
    obtain ⟨v', us, e1, z⟩ := gRs_split (gR_of nx rv R h)
    cases e1
    exact (setRs_nil z).2
end
theorem kv_pe {X : Cx} {k : Ky} {e : Option Expr} (h : keyB k e = true) : ∃ x, e = some x ∧ PE X x (tC (kV k)) := by
  unfold keyB at h
  split at h
  · rw [decide_eq_true_eq] at h; subst h
    exact ⟨_, rfl, PE_imp pe_int fun σ H Q z => z⟩
  · rw [decide_eq_true_eq] at h; subst h
    exact ⟨_, rfl, PE_imp pe_str fun σ H Q z => z⟩
  · cases h
mutual
theorem snd (C : Cn) : ∀ (c : CE) {X : Cx} {W : Xw} {N : Nm} (ok : XF X W C N) (e : Expr) (h : chk c N e = true), Snd X W C c e
  | .var i, X, W, N, ok, e, h => by
    unfold chk at h
    split at h
    · exact .of (s_var ok.toXOk h) rfl
    · cases h
  | .lit d, X, W, N, ok, e, h => by
    unfold chk at h
    split at h
    · exact .of (s_lit h) rfl
    · cases h
  | .glob y g, X, W, N, ok, e, h => by
    unfold chk at h
    split at h
    · simp only [Bool.and_eq_true, decide_eq_true_eq] at h
      obtain ⟨⟨⟨rfl, h1⟩, h2⟩, h3⟩ := h
      exact .of (s_glob ok.toXOk (glAny h1) h2 h3) rfl
    · cases h
  | .neg a, X, W, N, ok, e, h => by
    unfold chk at h
    split at h
    · exact .of (s_neg (snd C a ok _ h).pe) rfl
    · cases h
  | .nt a, X, W, N, ok, e, h => by
    unfold chk at h
    split at h
    · have := snd C a ok _ h
      exact s_nt this this.pe
    · cases h
  | .and a b, X, W, N, ok, e, h => by
    unfold chk at h
    split at h
    · rw [Bool.and_eq_true] at h
      exact s_and (snd C a ok _ h.1) (fun _ => snd C b ok _ h.2) fun z => absurd rfl z
    · rw [Bool.and_eq_true] at h
      exact s_and (snd C a ok _ h.1) (fun z => by cases z) fun _ => snd C b ok _ h.2
    · cases h
  | .or a b, X, W, N, ok, e, h => by
    unfold chk at h
    split at h
    · rw [Bool.and_eq_true] at h
      exact s_or (snd C a ok _ h.1) (fun _ => snd C b ok _ h.2) fun z => absurd rfl z
    · rw [Bool.and_eq_true] at h
      exact s_or (snd C a ok _ h.1) (fun z => by cases z) fun _ => snd C b ok _ h.2
    · cases h
  | .bin o a b, X, W, N, ok, e, h => by
    unfold chk at h
    split at h
    · rw [Bool.and_eq_true, Bool.and_eq_true] at h
      rw [opB_ok h.1.1]
      exact .of (s_bin (snd C a ok _ h.1.2).pe (snd C b ok _ h.2).pe) rfl
    · cases h
  | .cmp o a b, X, W, N, ok, e, h => by
    unfold chk at h
    split at h
    · rw [Bool.and_eq_true, Bool.and_eq_true, Bool.and_eq_true, Bool.not_eq_true'] at h
      have e1 := coB_ok h.1.1.1
      subst e1
      exact s_cmp ok.toXOk (snd C a ok _ h.1.2).pe (snd C b ok _ h.2).pe h.1.1.2
    · cases h
  | .chain o o2 a b c, X, W, N, ok, e, h => by
    unfold chk at h
    split at h
    · simp only [Bool.and_eq_true, Bool.not_eq_true'] at h
      have e1 := coB_ok h.1.1.1.1.1
      have e2 := coB_ok h.1.1.1.1.2
      subst e1 e2
      exact s_chain ok.toXOk (snd C a ok _ h.1.1.2).pe (snd C b ok _ h.1.2).pe (snd C c ok _ h.2).pe h.1.1.1.2
    · cases h
  | .ite c a b, X, W, N, ok, e, h => by
    unfold chk at h
    split at h
    · rw [Bool.and_eq_true, Bool.and_eq_true] at h
      exact s_ite (snd C c ok _ h.1.1) (snd C a ok _ h.1.2) (snd C b ok _ h.2)
    · cases h
  | .tup es, X, W, N, ok, e, h => by
    unfold chk at h
    split at h
    · exact .of (s_tup (sndL C es ok _ h)) rfl
    · cases h
  | .lst es, X, W, N, ok, e, h => by
    unfold chk at h
    split at h
    · exact .of (s_lst (sndL C es ok _ h)) rfl
    · cases h
  | .sub a i, X, W, N, ok, e, h => by
    unfold chk at h
    split at h
    · rw [Bool.and_eq_true, Bool.and_eq_true] at h
      exact .of (s_sub ok.toXOk (snd C a ok _ h.1.2).pe (snd C i ok _ h.2).pe h.1.1) rfl
    · cases h
  | .slice a lo hi, X, W, N, ok, e, h => by
    unfold chk at h
    split at h
    · rw [Bool.and_eq_true, Bool.and_eq_true] at h
      exact .of (s_slice (snd C a ok _ h.1.1).pe (sndO C lo ok _ h.1.2) (sndO C hi ok _ h.2)) rfl
    · cases h
  | .rev a, X, W, N, ok, e, h => by
    unfold chk at h
    split at h
    · exact .of (s_rev (snd C a ok _ h).pe) rfl
    · cases h
  | .mth m a es, X, W, N, ok, e, h => by
    unfold chk at h
    split at h
    · simp only [Bool.and_eq_true, decide_eq_true_eq] at h
      obtain ⟨⟨rfl, h1⟩, h2⟩ := h
      exact .of (s_upper (snd C a ok _ h2).pe h1) rfl
    · simp only [Bool.and_eq_true, decide_eq_true_eq] at h
      obtain ⟨⟨⟨rfl, rfl⟩, h1⟩, h2⟩ := h
      exact .of (s_count (snd C a ok _ h2).pe h1) rfl
    · cases h
  | .call f es ks how, X, W, N, ok, e, h => by
    unfold chk at h
    split at h
    · simp only [Bool.and_eq_true] at h
      obtain ⟨⟨⟨⟨⟨h1, h2⟩, h3⟩, h4⟩, h5⟩, h6⟩ := h
      split at h1
      · rename_i y shs q
        rw [Bool.and_eq_true, decide_eq_true_eq] at h1
        obtain ⟨rfl, h1⟩ := h1
        obtain ⟨k1, k2⟩ := sndK C ks ok _ h5
        exact .of (s_call ok q (shB_ok h1) h2 h3 (sndL C es ok _ h4) k1 k2 h6) rfl
      · cases h1
    · cases h
  | .bi b es, X, W, N, ok, e, h => by
    unfold chk at h
    split at h
    · simp only [Bool.and_eq_true, decide_eq_true_eq] at h
      obtain ⟨⟨⟨⟨rfl, h2⟩, h3⟩, h4⟩, h5⟩ := h
      have l := sndL C es ok _ h5
      rename_i xs _
      cases xs with
      | nil => cases h4
      | cons y ys => exact .of (s_bi ok.toXOk l h3 (ok.bl _ (mem_c h2))) rfl
    · cases h
  | .isi a t, X, W, N, ok, e, h => by
    unfold chk at h
    split at h
    · simp only [Bool.and_eq_true, decide_eq_true_eq] at h
      obtain ⟨⟨⟨⟨⟨⟨⟨rfl, rfl⟩, h3⟩, h4⟩, h5⟩, h6⟩, h7⟩, h8⟩ := h
      exact .of (s_isi ok.toXOk (snd C a ok _ h8).pe h7 h5 (ok.bl _ (mem_c h3)) h6 (ok.bl _ (mem_c h4))) rfl
    · cases h
  | .dict ks es, X, W, N, ok, e, h => by
    unfold chk at h
    split at h
    · simp only [Bool.and_eq_true, decide_eq_true_eq] at h
      obtain ⟨⟨h1, h2⟩, h3⟩ := h
      obtain ⟨p1, p2, p3, p4⟩ := sndD C es ok ks _ _ _ h3
      refine .of (s_dict ok.toXOk p1 p2 p3 (fun z => ?_) p4 h1) rfl
      subst z; cases h2
    · cases h
  | .comp tg vs it cond c, X, W, N, ok, e, h => by
    unfold chk at h
    split at h
    · simp only [Bool.and_eq_true, decide_eq_true_eq] at h
      obtain ⟨⟨⟨⟨⟨⟨⟨h1, h2⟩, h3⟩, h4⟩, h5⟩, h6⟩, h7⟩, h8⟩ := h
      rename_i elt t iter ifs scope _
      have bo : BlkOk X.N X.env.scope scope (ownOf N.N vs) := by rw [ok.nm, ok.sc]; exact blkOk_by h2
      exact .of (s_comp ok h1 h2 h3 (sndI C it ok _ _ h4) h5 (fun s H A cl fp => sndT C cond (ok.blk bo s H A cl fp) _ h7 h6) fun s H A cl fp => (snd C c (ok.blk bo s H A cl fp) _ h8).pe) rfl
    · cases h
  | .app i c, X, W, N, ok, e, h => by
    unfold chk at h
    split at h
    · simp only [Bool.and_eq_true, decide_eq_true_eq] at h
      obtain ⟨⟨⟨⟨rfl, h2⟩, h3⟩, h4⟩, h5⟩ := h
      exact .of (s_app ok.toXOk h2 (snd C c ok _ h5).pe h3 h4) rfl
    · cases h
  | .ext i c, X, W, N, ok, e, h => by
    unfold chk at h
    split at h
    · simp only [Bool.and_eq_true, decide_eq_true_eq] at h
      obtain ⟨⟨⟨⟨rfl, h2⟩, h3⟩, h4⟩, h5⟩ := h
      exact .of (s_ext ok.toXOk h2 (snd C c ok _ h5).pe h3 h4) rfl
    · cases h
theorem sndO (C : Cn) : ∀ (c : CEo) {X : Cx} {W : Xw} {N : Nm} (ok : XF X W C N) (e : Option Expr) (h : chkO c N e = true), PO X e (tO W X.K C c)
  | .no, X, W, N, ok, e, h => by
    unfold chkO at h
    cases e with
    | none => exact so_no
    | some _ => cases h
  | .yes c, X, W, N, ok, e, h => by
    unfold chkO at h
    split at h
    · exact so_yes (snd C c ok _ h).pe
    · cases h
theorem sndI (C : Cn) : ∀ (c : CI) {X : Cx} {W : Xw} {N : Nm} (ok : XF X W C N) (t e : Expr) (h : chkI c N t e = true), PI X t e (tI W X.K C c)
  | .seq c, X, W, N, ok, t, e, h => by
    unfold chkI at h
    exact i_seq (snd C c ok _ h).pe
  | .range es, X, W, N, ok, t, e, h => by
    unfold chkI at h
    split at h
    · simp only [Bool.and_eq_true, decide_eq_true_eq] at h
      obtain ⟨⟨⟨⟨rfl, h2⟩, h3⟩, h4⟩, h5⟩ := h
      exact i_range ok.toXOk (sndL C es ok _ h5) h4 h3 (ok.bl _ (mem_c h2))
    · cases h
  | .enum k c, X, W, N, ok, t, e, h => by
    unfold chkI at h
    split at h
    · simp only [Bool.and_eq_true, decide_eq_true_eq] at h
      obtain ⟨⟨⟨⟨⟨⟨rfl, h1⟩, rfl⟩, h2⟩, h3⟩, h4⟩, h5⟩ := h
      cases t with
      | Tuple elts kk tp => exact i_enum ok.toXOk h3 (ok.bl _ (mem_c h2)) (snd C c ok _ h5).pe h4
      | _ => cases h1
    · simp only [Bool.and_eq_true, decide_eq_true_eq] at h
      obtain ⟨⟨⟨⟨⟨⟨⟨⟨rfl, h0⟩, rfl⟩, h1⟩, rfl⟩, h2⟩, h3⟩, h4⟩, h5⟩ := h
      cases t with
      | Tuple elts kk tp => exact i_enumK ok.toXOk h3 (ok.bl _ (mem_c h2)) (snd C c ok _ h5).pe h4 h0
      | _ => cases h1
    · cases h
  | .zip st a b, X, W, N, ok, t, e, h => by
    unfold chkI at h
    split at h
    · simp only [Bool.and_eq_true, decide_eq_true_eq] at h
      obtain ⟨⟨⟨⟨⟨⟨⟨⟨h0, h1⟩, rfl⟩, h2⟩, h3⟩, h4⟩, h5⟩, h6⟩, h7⟩ := h
      cases st with
      | true => cases h0
      | false =>
      cases t with
      | Tuple elts kk tp => exact i_zip ok.toXOk h3 (ok.bl _ (mem_c h2)) (snd C a ok _ h6).pe (snd C b ok _ h7).pe h4 h5
      | _ => cases h1
    · simp only [Bool.and_eq_true, decide_eq_true_eq] at h
      obtain ⟨⟨⟨⟨⟨⟨⟨⟨⟨h0, rfl⟩, h1⟩, rfl⟩, h2⟩, h3⟩, h4⟩, h5⟩, h6⟩, h7⟩ := h
      cases st with
      | false => cases h0
      | true =>
      cases t with
      | Tuple elts kk tp => exact i_zipS ok.toXOk h3 (ok.bl _ (mem_c h2)) (snd C a ok _ h6).pe (snd C b ok _ h7).pe h4 h5
      | _ => cases h1
    · cases h
theorem sndL (C : Cn) : ∀ (c : CEs) {X : Cx} {W : Xw} {N : Nm} (ok : XF X W C N) (es : List Expr) (h : chks c N es = true), SndL X W C c es
  | .nil, X, W, N, ok, es, h => by
    unfold chks at h
    cases es with
    | nil => exact sl_nil
    | cons _ _ => cases h
  | .cons c cs, X, W, N, ok, es, h => by
    unfold chks at h
    split at h
    · rw [Bool.and_eq_true, Bool.and_eq_true] at h
      exact sl_cons (snd C c ok _ h.1.2).pe (sndL C cs ok _ h.2) h.1.1
    · cases h
theorem sndT (C : Cn) : ∀ (c : CEs) {X : Cx} {W : Xw} {N : Nm} (ok : XF X W C N) (es : List Expr) (h : chkTsts c N es = true) (hl : es.length ≤ 1), PTs X es (tTs W X.K C c)
  | .nil, X, W, N, ok, es, h, hl => by
    unfold chkTsts at h
    cases es with
    | nil => exact ts_nil
    | cons _ _ => cases h
  | .cons c cs, X, W, N, ok, es, h, hl => by
    unfold chkTsts at h
    split at h
    · rename_i e es
      rw [Bool.and_eq_true] at h
      cases es with
      | cons _ _ => simp at hl
      | nil =>
        cases cs with
        | nil => exact ts_one (snd C c ok _ h.1).pt
        | cons _ _ => exact absurd h.2 Bool.false_ne_true
    · cases h
theorem sndK (C : Cn) : ∀ (c : CEs) {X : Cx} {W : Xw} {N : Nm} (ok : XF X W C N) (ks : List Keyword) (h : chkK c N ks = true), PK X ks (tKs W X.K C c) ∧ c.len = ks.length
  | .nil, X, W, N, ok, ks, h => by
    unfold chkK at h
    cases ks with
    | nil => exact ⟨k_nil, rfl⟩
    | cons _ _ => cases h
  | .cons c cs, X, W, N, ok, ks, h => by
    unfold chkK at h
    split at h
    · rename_i k ks
      rw [Bool.and_eq_true] at h
      obtain ⟨h1, h2⟩ := sndK C cs ok _ h.2
      obtain ⟨a, v, p⟩ := k
      exact ⟨k_cons (snd C c ok v h.1).pe h1, by simp [CEs.len, h2]⟩
    · cases h
theorem sndD (C : Cn) : ∀ (c : CEs) {X : Cx} {W : Xw} {N : Nm} (ok : XF X W C N) (ks : List Ky) (keys : List (Option Expr)) (vals : List Expr) (pos : Pos) (h : chkD ks c N keys vals = true), PPs X pos keys vals (trsOf W X.K C ks c) ∧ keys.all (·.isSome) = true ∧ keys.length = vals.length ∧ ks.length = c.len
  | .nil, X, W, N, ok, ks, keys, vals, pos, h => by
    unfold chkD at h
    simp only [Bool.and_eq_true, List.isEmpty_iff] at h
    obtain ⟨⟨rfl, rfl⟩, rfl⟩ := h
    exact ⟨pps_nil, rfl, rfl, rfl⟩
  | .cons c cs, X, W, N, ok, ks, keys, vals, pos, h => by
    unfold chkD at h
    split at h
    · rename_i k ks ke keys v vals
      rw [Bool.and_eq_true, Bool.and_eq_true] at h
      obtain ⟨x, rfl, hx⟩ := kv_pe (X := X) h.1.1
      obtain ⟨h1, h2, h3, h4⟩ := sndD C cs ok ks keys vals pos h.2
      exact ⟨pps_cons hx (snd C c ok _ h.1.2).pe h1, by simp [h2], by simp [h3], by simp [CEs.len, h4]⟩
    · cases h
end
end Pur
end
section
set_option Elab.async false
set_option linter.all false
set_option maxHeartbeats 2000000
namespace Pur
open PySem PySem.Spec L2 PyProof.Rows
def CS.isKill : CS → Bool
  | .kill _ => true
  | _ => false
mutual
def chkS : CS → Nm → Stmt → Bool
  | .asg t c, N, st => match st with
    | .Assign [tg] e _ => chk c N e && chkT t N tg && (notTL tg || notTL e) && (notLc e || isTup tg || (match t, tg, e with
      | .nm i, .Name y py, .ListComp elt [⟨tt, iter, ifs, 0⟩] scope pos => (decide (N.sc.names.lookup y = some .local) && (py.line == pos.line) && !(scope.names.any fun (n, k) => n == y && (k == .local || k == .cell))) || decide (N.sc.names.lookup y = some .cell)
      | _, _, _ => false))
    | _ => false
  | .par ts es, N, st => match st with
    | .Assign [.Tuple tes _ _] (.Tuple ves _ _) _ => chks es N ves && (match swB N.sc tes ves with
      | some none => chkTs ts N tes && decide (tes.length ≤ 100)
      | some (some names) => (match ts, tes, ves with
        | .cons (.nm i) (.cons (.nm j) .nil), [.Name x _, .Name y _], [_, _] => decide (N.N[i]? = some x) && decide (N.N[j]? = some y) && decide (i ≠ j) && decide (N.sc.names.lookup x = some .local) && decide (N.sc.names.lookup y = some .local) && decide (names = [x, y])
        | .cons (.nm i) (.cons (.nm j) (.cons (.nm l) .nil)), [.Name x _, .Name y _, .Name z _], [_, _, _] => decide (N.N[i]? = some x) && decide (N.N[j]? = some y) && decide (N.N[l]? = some z) && decide (i ≠ j) && decide (i ≠ l) && decide (j ≠ l) && decide (N.sc.names.lookup x = some .local) && decide (N.sc.names.lookup y = some .local) && decide (N.sc.names.lookup z = some .local) && decide (names = [x, y, z])
        | _, _, _ => false)
      | none => false)
    | _ => false
  | .put o k c, N, st => match st with
    | .Assign [.Subscript eo ek _] e _ => chk o N eo && chk k N ek && chk c N e
    | _ => false
  | .puti i k c, N, st => match st with
    | .Assign [.Subscript (.Name x px) ek _] e _ => nmOk N i x && notSl ek && chk k N ek && chk c N e
    | _ => false
  | .kill _, N, st => false
  | .aug i o c, N, st => match st with
    | .AugAssign (.Name x _) p e _ => decide (N.N[i]? = some x) && stB N x && opB o p && (opB o .Add || opB o .Sub) && chk c N e
    | _ => false
  | .expr c, N, st => match st with
    | .Expr e _ => notLc e && chk c N e
    | _ => false
  | .ret c, N, st => match st with
    | .Return (some e) _ => chk c N e
    | _ => false
  | .retN, N, st => match st with
    | .Return none _ => true
    | _ => false
  | .ifs c a b, N, st => match st with
    | .If e p q _ => chk c N e && chkSs a N p && chkSs b N q
    | _ => false
  | .for t it b, N, st => match st with
    | .For tg e body [] _ => chkT t N tg && notSet e && chkI it N tg e && chkSs b N body
    | _ => false
  | .while c b, N, st => match st with
    | .While e body [] _ => chk c N e && chkSs b N body
    | _ => false
  | .pass, N, st => match st with
    | .Pass _ => true
    | _ => false
  | .brk, N, st => match st with
    | .Break _ => true
    | _ => false
  | .cont, N, st => match st with
    | .Continue _ => true
    | _ => false
  | .never, N, st => true
def chkSs : CSs → Nm → List Stmt → Bool
  | .nil, N, sts => sts.isEmpty
  | .cons c cs, N, sts => if c.isKill then chkSs cs N sts else match sts with
    | st :: sts => chkS c N st && chkSs cs N sts
    | [] => false
end
theorem psv (C : Cn) : ∀ (c : CEs) {X : Cx} {W : Xw} {N : Nm} (ok : XF X W C N) (es : List Expr) (h : chks c N es = true), PA X es (tPs W X.K C c)
  | .nil, X, W, N, ok, es, h => by
    unfold chks at h
    cases es with
    | nil => exact ps_nilv
    | cons _ _ => cases h
  | .cons c cs, X, W, N, ok, es, h => by
    unfold chks at h
    split at h
    · rw [Bool.and_eq_true, Bool.and_eq_true] at h
      exact ps_consv ok.toXOk (snd C c ok _ h.1.2).pe (psv C cs ok _ h.2) h.1.1
    · cases h
theorem sw_cell {elt : Expr} {gs : List Comprehension} {scope : Scope} {pos py : Pos} {y : Str} {l : Nat} {env : Env} (hy : env.scope.names.lookup y = some .cell) : swapsWith (.ListComp elt gs scope pos) (some (.Name y py)) l env = pure false := by
  have ky : env.kindOf y = some .cell := hy
  unfold swapsWith
  simp only [ky]
  cases env.blockKind <;> rfl
/-- t = e, the stores not turned -/
theorem s_asgW {X : Cx} {W : Xw} {C : Cn} {N : Nm} (ok : XOk X W C N) {t : Tg} {c : CE} {tg e : Expr} {pos : Pos} (he : PE X e (tE W X.K C c)) (ht : chkT t N tg = true) (hw : notTL tg = true ∨ notTL e = true) (sw : swapsWithSole [tg] e pos.line X.env = pure false) : PS X (.Assign [tg] e pos) (tS W X.K C (.asg t c)) := by
  refine PS_imp (ps_asg he (pgr_of ok t tg ht) sw (swst_no hw) (asg1 (chkT_star ht))) fun D σ H ⟨G, H0, mu0, mu, s, R, h⟩ => ⟨G, H0, mu0, mu, s, R, ?_⟩
  rw [ex] at h
  cases em : ev C c s with
  | stuck => rw [em] at h; exact h.elim
  | exc cc fs s1 => rw [em] at h; exact fun mu' H' nx => h mu' σ H' nx
  | ok r s1 =>
    rw [em] at h
    exact fun v mu1 H1 nx rv => gR_of nx rv R h
mutual
theorem sndS (C : Cn) : ∀ (c : CS) {X : Cx} {W : Xw} {N : Nm} (ok : XF X W C N) (st : Stmt) (h : chkS c N st = true), PS X st (tS W X.K C c)
  | .asg t c, X, W, N, ok, st, h => by
    unfold chkS at h
    split at h
    · rename_i tg e pos
      simp only [Bool.and_eq_true, Bool.or_eq_true] at h
      obtain ⟨⟨⟨h1, h2⟩, h3⟩, h4⟩ := h
      rcases h4 with h4 | h4
      · exact s_asg ok.toXOk (snd C c ok _ h1).pe h2 h3 h4
      · split at h4
        · rename_i t' tg' e' i y py elt tt iter ifs scope pos'
          simp only [Bool.and_eq_true, Bool.or_eq_true, decide_eq_true_eq, Bool.not_eq_true'] at h4
          rcases h4 with ⟨⟨l1, l2⟩, l3⟩ | l1
          · -- on one line
            cases c with
            | comp tg vs it cond c =>
              unfold chk at h1
              simp only [Bool.and_eq_true, decide_eq_true_eq] at h1
              obtain ⟨⟨⟨⟨⟨⟨⟨q1, q2⟩, q3⟩, q4⟩, q5⟩, q6⟩, q7⟩, q8⟩ := h1
              have bo : BlkOk X.N X.env.scope scope (ownOf N.N vs) := by rw [ok.nm, ok.sc]; exact blkOk_by q2
              unfold chkT at h2
              rw [Bool.and_eq_true, decide_eq_true_eq] at h2
              exact s_compSet ok q1 q2 q3 (sndI C it ok _ _ q4) q5 (fun s H A cl fp => sndT C cond (ok.blk bo s H A cl fp) _ q7 q6) (fun s H A cl fp => (snd C c (ok.blk bo s H A cl fp) _ q8).pe) h2.1 l1 l2 l3
            | mth m a es =>
              unfold chk at h1
              split at h1 <;> first | exact absurd h1 Bool.false_ne_true | contradiction | (rename_i q; cases q) | simp_all
            | _ => exact absurd h1 Bool.false_ne_true
          · exact s_asgW ok.toXOk (snd C c ok _ h1).pe h2 h3 (sw_cell (l := pos.line) (by rw [ok.sc]; exact l1))
        · cases h4
    · cases h
  | .par ts es, X, W, N, ok, st, h => by
    unfold chkS at h
    split at h
    · rename_i tes k p ves k2 p2 pos
      rw [Bool.and_eq_true] at h
      obtain ⟨h1, h2⟩ := h
      have hv := psv C es ok _ h1
      split at h2
      · rename_i q
        rw [Bool.and_eq_true, decide_eq_true_eq] at h2
        exact s_par ok.toXOk ok.kd hv h2.1 h2.2 q
      · rename_i names q
        split at h2
        · simp only [Bool.and_eq_true, decide_eq_true_eq] at h2
          obtain ⟨⟨⟨⟨⟨l1, l2⟩, l3⟩, l4⟩, l5⟩, l6⟩ := h2
          subst l6
          exact s_par2 ok.toXOk ok.kd hv l1 l2 l3 l4 l5 q
        · simp only [Bool.and_eq_true, decide_eq_true_eq] at h2
          obtain ⟨⟨⟨⟨⟨⟨⟨⟨⟨l1, l2⟩, l3⟩, l4⟩, l5⟩, l6⟩, l7⟩, l8⟩, l9⟩, l10⟩ := h2
          subst l10
          exact s_par3 ok.toXOk ok.kd hv l1 l2 l3 l4 l5 l6 l7 l8 l9 q
        · cases h2
      · cases h2
    · cases h
  | .put o k c, X, W, N, ok, st, h => by
    unfold chkS at h
    split at h
    · rw [Bool.and_eq_true, Bool.and_eq_true] at h
      exact s_put ok.toXOk (snd C o ok _ h.1.1).pe (snd C k ok _ h.1.2).pe (snd C c ok _ h.2).pe
    · cases h
  | .puti i k c, X, W, N, ok, st, h => by
    unfold chkS at h
    split at h
    · simp only [Bool.and_eq_true] at h
      obtain ⟨⟨⟨h1, h2⟩, h3⟩, h4⟩ := h
      exact s_puti ok.toXOk h1 h2 (snd C k ok _ h3).pe (snd C c ok _ h4).pe
    · cases h
  | .kill vs, X, W, N, ok, st, h => by
    unfold chkS at h
    cases h
  | .aug i o c, X, W, N, ok, st, h => by
    unfold chkS at h
    split at h
    · simp only [Bool.and_eq_true, decide_eq_true_eq, Bool.or_eq_true] at h
      obtain ⟨⟨⟨⟨h1, h2⟩, h3⟩, h4⟩, h5⟩ := h
      rw [opB_ok h3]
      refine s_aug ok.toXOk h1 h2 (snd C c ok _ h5).pe ?_
      rcases h4 with z | z
      · left; cases o <;> first | rfl | (cases z)
      · right; cases o <;> first | rfl | (cases z)
    · cases h
  | .expr c, X, W, N, ok, st, h => by
    unfold chkS at h
    split at h
    · rw [Bool.and_eq_true] at h
      exact s_expr (snd C c ok _ h.2).pe h.1
    · cases h
  | .ret c, X, W, N, ok, st, h => by
    unfold chkS at h
    split at h
    · exact s_ret (snd C c ok _ h).pe
    · cases h
  | .retN, X, W, N, ok, st, h => by
    unfold chkS at h
    split at h
    · exact s_retN
    · cases h
  | .ifs c a b, X, W, N, ok, st, h => by
    unfold chkS at h
    split at h
    · rw [Bool.and_eq_true, Bool.and_eq_true] at h
      exact s_ifs (snd C c ok _ h.1.1).pt (sndSs C a ok _ h.1.2) (sndSs C b ok _ h.2)
    · cases h
  | .for t it b, X, W, N, ok, st, h => by
    unfold chkS at h
    split at h
    · simp only [Bool.and_eq_true] at h
      obtain ⟨⟨⟨h1, h2⟩, h3⟩, h4⟩ := h
      exact s_for ok.toXOk ok.we ok.po (sndI C it ok _ _ h3) h1 (sndSs C b ok _ h4) h2
    · cases h
  | .while c b, X, W, N, ok, st, h => by
    unfold chkS at h
    split at h
    · rw [Bool.and_eq_true] at h
      exact s_while ok.po (snd C c ok _ h.1).pt (sndSs C b ok _ h.2)
    · cases h
  | .pass, X, W, N, ok, st, h => by
    unfold chkS at h
    split at h
    · exact s_pass
    · cases h
  | .brk, X, W, N, ok, st, h => by
    unfold chkS at h
    split at h
    · exact s_brk
    · cases h
  | .cont, X, W, N, ok, st, h => by
    unfold chkS at h
    split at h
    · exact s_cont
    · cases h
  | .never, X, W, N, ok, st, h => s_never _ fun _ => rfl
theorem sndSs (C : Cn) : ∀ (c : CSs) {X : Cx} {W : Xw} {N : Nm} (ok : XF X W C N) (sts : List Stmt) (h : chkSs c N sts = true), PSs X sts (tSs W X.K C c)
  | .nil, X, W, N, ok, sts, h => by
    unfold chkSs at h
    cases sts with
    | nil => exact ss_nil
    | cons _ _ => cases h
  | .cons c cs, X, W, N, ok, sts, h => by
    unfold chkSs at h
    by_cases hk : c.isKill = true
    · rw [if_pos hk] at h
      cases c with
      | kill vs => exact ss_kill (sndSs C cs ok _ h)
      | _ => cases hk
    · rw [if_neg hk] at h
      split at h
      · rw [Bool.and_eq_true] at h
        exact ss_cons (sndS C c ok _ h.1) (sndSs C cs ok _ h.2)
      · cases h
end
end Pur
end
section
set_option Elab.async false
set_option linter.all false
set_option maxHeartbeats 2000000
namespace Pur
open PySem PySem.Spec L2 PyProof.Rows
/-! ### a def's body and its promise -/
section
variable {K : Fg} {G G' : Addr → Prop} {H0 H H' : Hp} {mu0 mu mu' : List Addr} {s s' : Sg} {σ σ' : St} {v : V} {st : Sto}
def ownless (env : List EV) : Prop := ∀ (i : Nat) (xs : List D), ¬ OwnAt env i xs
theorem hid_noOwn {env : List EV} (h : ownless env) : hid G env σ H = hid G [] [] H := by
  have e : (fun a => G a ∨ ownA env σ a) = fun a => G a ∨ ownA [] ([] : St) a := funext fun a => propext ⟨fun z => z.elim .inl fun ⟨i, xs, q, _⟩ => (h i xs q).elim, fun z => z.elim .inl fun z => (no_own z).elim⟩
  unfold hid
  rw [e]
/-- the entry -/
theorem args_ev {as : List RV} {vs : List V} {evs : List EV} (w : RVs K G [] mu ⟨[], st⟩ H as vs) (e : as.mapM evOf = some evs) : evs.length = vs.length ∧ ownless evs ∧ (∀ (i : Nat) (x : EV), evs[i]? = some x → ∃ v, vs[i]? = some v ∧ EvR K (hid G [] [] H) mu H (some v) x) := by
  induction w generalizing evs with
  | nil =>
    cases e
    exact ⟨rfl, fun i xs h => by unfold OwnAt at h; simp at h, fun i x h => by simp at h⟩
  | @cons r v rs vs p q ih =>
    rw [List.mapM_cons] at e
    cases e1 : evOf r with
    | none => rw [e1] at e; cases e
    | some x =>
      rw [e1] at e
      cases e2 : rs.mapM evOf with
      | none => rw [e2] at e; cases e
      | some xs =>
        rw [e2] at e
        cases e
        obtain ⟨i1, i2, i3⟩ := ih e2
        have nx : ∀ ys, x ≠ .own ys ∧ x ≠ .lent ys := fun ys => by
          cases r with
          | dat d => cases e1; exact ⟨(fun z => by cases z), (fun z => by cases z)⟩
          | loc d => cases e1; exact ⟨(fun z => by cases z), (fun z => by cases z)⟩
          | fresh d => cases e1
          | slot d => cases e1
        refine ⟨by simp [i1], fun i ys h => ?_, fun i y h => ?_⟩
        · cases i with
          | zero =>
            unfold OwnAt at h
            simp only [List.getElem?_cons_zero, Option.some.injEq] at h
            exact h.elim (nx ys).1 (nx ys).2
          | succ i =>
            refine i2 i ys ?_
            unfold OwnAt at h ⊢
            simpa using h
        · cases i with
          | zero =>
            simp only [List.getElem?_cons_zero, Option.some.injEq] at h
            subst h
            refine ⟨v, rfl, ?_⟩
            cases r with
            | dat d => cases e1; exact ⟨v, rfl, p⟩
            | loc n => cases e1; obtain ⟨a, rfl, z⟩ := p; exact ⟨a, rfl, z⟩
            | fresh _ => cases e1
            | slot _ => cases e1
          | succ i => simpa using i3 i y (by simpa using h)
theorem Rel.begin {N : List Str} {as : List RV} {vs : List V} {evs : List EV} {n : Nat} (R : Rel K G H mu mu ⟨[], st⟩ [] H) (w : RVs K G [] mu ⟨[], st⟩ H as vs) (e : as.mapM evOf = some evs) (hn : n = N.length - vs.length) : Rel K G H mu mu ⟨evs ++ List.replicate n .non, st⟩ (L2.start N vs) H := by
  obtain ⟨l1, l2, l3⟩ := args_ev w e
  have no : ownless (evs ++ List.replicate n .non) := fun i xs h => by
    by_cases hi : i < evs.length
    · refine l2 i xs ?_
      unfold OwnAt at h ⊢
      rwa [List.getElem?_append_left hi] at h
    · unfold OwnAt at h
      rw [List.getElem?_append_right (by omega), List.getElem?_replicate] at h
      split at h <;> (rcases h with h | h <;> cases h)
  have hh : hid G (evs ++ List.replicate n .non) (L2.start N vs) H = hid G [] [] H := hid_noOwn no
  refine ⟨?_, fun i x q => ?_, fun i j xs ys a h1 => (no i xs h1).elim, R.stl, fun m kvs a q1 q2 => ?_, R.nd, fun a z => ⟨(R.dom a z).1, fun ⟨i, xs, h, _⟩ => no i xs h, (R.dom a z).2.2⟩, R.ext, fun a ⟨i, xs, h, _⟩ => (no i xs h).elim, R.pre⟩
  · unfold L2.start
    simp [l1, hn]
  · rw [hh]
    have q : (evs ++ List.replicate n .non)[i]? = some x := q
    by_cases hi : i < evs.length
    · rw [List.getElem?_append_left hi] at q
      obtain ⟨v, q1, q2⟩ := l3 i x q
      refine ⟨some v, ?_, q2⟩
      unfold L2.start
      rw [List.getElem?_append_left (by simpa [← l1] using hi), List.getElem?_map, q1]; rfl
    · rw [List.getElem?_append_right (by omega), List.getElem?_replicate] at q
      split at q
      · rename_i hlt
        cases q
        refine ⟨none, ?_, trivial⟩
        unfold L2.start
        rw [List.getElem?_append_right (by simp [← l1]; omega), List.getElem?_replicate]
        rw [if_pos]
        simp only [List.length_map]
        omega
      · cases q
  · obtain ⟨ws, h1, h2⟩ := R.sto m kvs a q1 q2
    exact ⟨ws, h1, by rw [hh]; exact h2⟩
/-- the exit: the slots are gone, and what the body has made in the store -/
theorem Rel.drop (R : Rel K G H mu mu' s σ H') (hl : mu.length = st.length) (hG : ∀ a, G' a → H' a ≠ none ∧ a ∉ mu') (t : Tm (hid G s.env σ H') (hid G' [] [] H')) : Rel K G' H mu mu ⟨[], s.sto.take st.length⟩ [] H' where
  len := rfl
  slots := fun i e q => by simp at q
  inj := fun i j xs ys a h1 _ _ _ => by unfold OwnAt at h1; simp at h1
  stl := by
    obtain ⟨m, rfl, _⟩ := R.pre
    have := R.stl
    show _ = (s.sto.take st.length).length
    rw [List.length_take, ← this, List.length_append]
    omega
  sto := fun n kvs a q1 q2 => by
    obtain ⟨m, rfl, _⟩ := R.pre
    have hn : n < mu.length := (List.getElem?_eq_some_iff.mp q2).1
    have q1 : (s.sto.take st.length)[n]? = some kvs := q1
    rw [List.getElem?_take_of_lt (by omega)] at q1
    obtain ⟨ws, h1, h2⟩ := R.sto n kvs a q1 (by rw [List.getElem?_append_left hn]; exact q2)
    exact ⟨ws, h1, KvR.tm t h2⟩
  nd := by
    obtain ⟨m, rfl, _⟩ := R.pre
    exact (List.nodup_append.mp R.nd).1
  dom := fun a z => by
    obtain ⟨m, rfl, _⟩ := R.pre
    exact ⟨(hG a z).1, no_own, fun q => (hG a z).2 (List.mem_append_left _ q)⟩
  ext := fun a o e n => R.ext a o e n
  new := fun a z => (no_own z).elim
  pre := ⟨[], by simp, fun a z => absurd z (by simp)⟩
/-- the same, one dict of the body's handed out -/
theorem Rel.dropD (R : Rel K G H mu mu' s σ H') (hl : mu.length = st.length) (t : Tm (hid G s.env σ H') (hid G [] [] H')) {n : Nat} {kvs : List (Ky × D)} {a : Addr} (hn : st.length ≤ n) (q1 : s.sto[n]? = some kvs) (q2 : mu'[n]? = some a) : Rel K G H mu (mu ++ [a]) ⟨[], s.sto.take st.length ++ [kvs]⟩ [] H' := by
  have R0 := R.drop (st := st) (G' := G) hl (fun b z => ⟨(R.dom b z).1, (R.dom b z).2.2⟩) t
  obtain ⟨m, rfl, hm⟩ := R.pre
  have am : a ∈ m := by
    rw [List.getElem?_append_right (by omega)] at q2
    exact List.mem_of_getElem? q2
  have na : a ∉ mu := fun z => (List.nodup_append.mp R.nd).2.2 a z a am rfl
  have ls : (s.sto.take st.length).length = mu.length := by rw [← R0.stl]
  refine ⟨rfl, fun i e q => by simp at q, fun i j xs ys a h1 _ _ _ => by unfold OwnAt at h1; simp at h1, ?_, fun i kv b z1 z2 => ?_, ?_, fun b z => ⟨(R0.dom b z).1, no_own, fun q => ?_⟩, R0.ext, fun b z => (no_own z).elim, ⟨[a], rfl, fun b z => ?_⟩⟩
  · show (mu ++ [a]).length = (s.sto.take st.length ++ [kvs]).length
    rw [List.length_append, List.length_append, ls]; rfl
  · have z1 : (s.sto.take st.length ++ [kvs])[i]? = some kv := z1
    by_cases hi : i < mu.length
    · rw [List.getElem?_append_left (by omega)] at z1
      rw [List.getElem?_append_left hi] at z2
      exact R0.sto i kv b z1 z2
    · have hle : i < (mu ++ [a]).length := (List.getElem?_eq_some_iff.mp z2).1
      rw [List.length_append, List.length_singleton] at hle
      have e : i = mu.length := by omega
      subst e
      rw [List.getElem?_append_right (Nat.le_refl _), Nat.sub_self] at z2
      cases z2
      rw [List.getElem?_append_right (by omega), ls, Nat.sub_self] at z1
      cases z1
      obtain ⟨ws, h1, h2⟩ := R.sto n kvs a q1 q2
      exact ⟨ws, h1, KvR.tm t h2⟩
  · rw [List.nodup_append]
    refine ⟨R0.nd, by simp, fun b hb c hc => ?_⟩
    rw [List.mem_singleton] at hc
    subst hc
    exact fun z => na (z ▸ hb)
  · rcases List.mem_append.mp q with q | q
    · exact (R0.dom b z).2.2 q
    · rw [List.mem_singleton] at q
      subst q
      exact (R.dom b z).2.2 (List.mem_append_right _ am)
  · rw [List.mem_singleton] at z
    subst z; exact hm b am
theorem tm_out : Tm (hid G s.env σ H) (hid G [] [] H) := Tm.msk fun a z => z.elim .inl fun z => (no_own z).elim
/-- what a body gives is what the promise says -/
theorem fin_ok {W : Xw} {Q : VK} {r : RV} {st' : Sto} {s0 : Sg} {σ0 : St} {o : O Fl} (hno : ownless s0.env) (hl : mu.length = st.length) (ec : fin st.length o = .ok r st') (q : ∀ v mu' H', Nx K G H mu mu ⟨[], st⟩ [] H mu' ⟨[], st'⟩ [] H' → RVr K G H mu [] H mu' ⟨[], st'⟩ H' r v → Q v H') :
    PostS W K G H mu { nx := fun _ H' => Q .non H', rt := Q } mu s0 σ0 H o := by
  have h0 : hid G s0.env σ0 H = hid G [] [] H := hid_noOwn hno
  have nxOf : ∀ {mu1 s1 σ1 H1}, Nx K G H mu mu s0 σ0 H mu1 s1 σ1 H1 → Nx K G H mu mu ⟨[], st⟩ [] H mu ⟨[], s1.sto.take st.length⟩ [] H1 := fun {mu1 s1 σ1 H1} nx => by
    refine ⟨nx.rel.drop hl (fun a z => ⟨(nx.rel.dom a z).1, (nx.rel.dom a z).2.2⟩) tm_out, ⟨[], by simp⟩, ?_, nx.dom, nx.gk, fun i xs h => by simp at h⟩
    rw [← h0]
    exact nx.tm.trans tm_out
  cases o with
  | stuck => cases ec
  | exc c fs s1 => cases ec
  | ok fl s1 =>
    intro mu1 σ1 H1 nx
    cases fl with
    | brk => cases ec
    | cont => cases ec
    | next =>
      cases ec
      exact q _ _ _ (nxOf nx) .non
    | ret r0 =>
      intro v rv
      cases r0 with
      | dat d =>
        cases ec
        exact q _ _ _ (nxOf nx) (dpT tm_out rv)
      | fresh xs =>
        cases ec
        obtain ⟨a, ws, e, q1, q2, q3, q4, R1⟩ := rv
        exact q _ _ _ (nxOf nx) ⟨a, ws, e, q1, q2, q3, daT tm_out q4, R1.drop hl (fun b z => ⟨(R1.dom b z).1, (R1.dom b z).2.2⟩) tm_out⟩
      | slot i =>
        have rv : σ1[i]? = some (some v) := rv
        cases e1 : s1.env[i]? with
        | none => simp only [fin, e1] at ec; cases ec
        | some x =>
          obtain ⟨o, e2, e3⟩ := nx.rel.slots i x e1
          rw [rv] at e2; cases e2
          cases x with
          | non => simp only [fin, e1] at ec; cases ec
          | lent _ => simp only [fin, e1] at ec; cases ec
          | loc _ => simp only [fin, e1] at ec; cases ec
          | dat d =>
            simp only [fin, e1] at ec
            cases ec
            obtain ⟨w, z, e4⟩ := e3
            cases z
            exact q _ _ _ (nxOf nx) (dpT tm_out e4)
          | own xs =>
            simp only [fin, e1] at ec
            cases ec
            obtain ⟨a, ws, z, e4, e5⟩ := e3
            cases z
            have oa : ownA s1.env σ1 a := ⟨i, xs, .inl e1, rv⟩
            have nG : ¬ G a := fun z => (nx.rel.dom a z).2.1 oa
            have t : Tm (hid G s1.env σ1 H1) (hid (add1 G a) [] [] H1) := Tm.msk fun b z => by
              rcases z with (z | z) | z
              · exact .inl z
              · exact .inr (z ▸ oa)
              · exact (no_own z).elim
            refine q _ _ _ (nxOf nx) ⟨a, ws, rfl, nx.rel.new a oa, e4, nG, daT t e5, nx.rel.drop hl (fun b z => ?_) t⟩
            rcases z with z | z
            · exact ⟨(nx.rel.dom b z).1, (nx.rel.dom b z).2.2⟩
            · subst z
              refine ⟨by rw [e4]; exact fun w => (by cases w), fun z => ?_⟩
              obtain ⟨n, hn, rfl⟩ := List.mem_iff_getElem.mp z
              obtain ⟨_, vs', _, e', _⟩ := nx.rel.muH (List.getElem?_eq_getElem hn)
              rw [e4] at e'; cases e'
      | loc n =>
        obtain ⟨a, rfl, z⟩ := rv
        by_cases hn : n < st.length
        · simp only [fin, if_pos hn] at ec
          cases ec
          obtain ⟨m, e⟩ := nx.pre
          refine q _ _ _ (nxOf nx) ⟨a, rfl, ?_⟩
          rw [e, List.getElem?_append_left (by omega)] at z
          exact z
        · simp only [fin, if_neg hn] at ec
          cases e1 : s1.sto[n]? with
          | none => rw [e1] at ec; cases ec
          | some kvs =>
            rw [e1] at ec
            cases ec
            have RD := nx.rel.dropD (st := st) hl tm_out (by omega) e1 z
            have n0 := nxOf nx
            refine q _ _ _ ⟨RD, ⟨[a], rfl⟩, n0.tm, n0.dom, n0.gk, fun i xs h => by simp at h⟩ ⟨a, rfl, ?_⟩
            rw [List.getElem?_append_right (by omega), hl, Nat.sub_self]; rfl
end
/-! ### the table of the defs -/
structure FnT where
  name : Str
  N : List Str
  st : Stmt
  df : Df
  shs : List Shp
def FnT.ps (t : FnT) : List Str := t.N.take t.df.np
def chkFn (fn : List (Nat × Str × List Shp)) (gl : List (Str × D)) (bl : List Str) (t : FnT) : Bool :=
  C8.scC t.N t.ps (C8.fnScope t.st) && decide (t.df.np ≤ t.N.length) && decide (t.df.ns = t.N.length) && chkSs t.df.body ⟨t.N, C8.fnScope t.st, fn, gl, bl, none⟩ (C8.fnBody t.st)
abbrev Tab := List (Nat × FnT)
def fnNames (tab : Tab) : List (Nat × Str × List Shp) := tab.map fun p => (p.1, p.2.name, p.2.shs)
def dfsOf (tab : Tab) (i : Nat) : Option Df := (tab.lookup i).map (·.df)
theorem tab_mem {i : Nat} {t : FnT} : ∀ {tab : Tab}, tab.lookup i = some t → (i, t) ∈ tab
  | [], h => by cases h
  | (j, u) :: tab, h => by
    rw [List.lookup_cons] at h
    split at h
    · rename_i e
      cases h
      have : i = j := by simpa using e
      subst this
      exact List.mem_cons_self
    · exact List.mem_cons_of_mem _ (tab_mem h)
theorem tab_names {i : Nat} {x : Str} {shs : List Shp} : ∀ {tab : Tab}, (fnNames tab).lookup i = some (x, shs) → ∃ t, tab.lookup i = some t ∧ t.name = x ∧ t.shs = shs
  | [], h => by cases h
  | (j, u) :: tab, h => by
    unfold fnNames at h
    rw [List.map_cons, List.lookup_cons] at h
    rw [List.lookup_cons]
    split at h
    · rename_i e
      cases h
      have e : (i == j) = true := e
      rw [e]
      exact ⟨u, rfl, rfl, rfl⟩
    · rename_i e
      have e : (i == j) = false := e
      rw [e]
      exact tab_names h
/-- what the top has written of a def -/
structure FnK (K : Fg) (mg : Str → Option Value) (t : FnT) : Prop where
  ex : ∃ (fa : Addr) (fd : FuncData), C8.Fun K t.name t.name t.st fa fd ∧ mg t.name = some (.ref fa) ∧ PySem.W.keepIn K (.ref fa) = true ∧ ∀ sh ∈ t.shs, BindOk K fd t.ps sh
structure TabOk (K : Fg) (mg : Str → Option Value) (tab : Tab) (gl : List (Str × D)) (bl : List Str) : Prop where
  fns : ∀ p ∈ tab, FnK K mg p.2 ∧ chkFn (fnNames tab) gl bl p.2 = true
  gl : ∀ x d, (x, d) ∈ gl → ∃ v u, mg x = some u ∧ RelV v u ∧ ∀ H, Dp K H v d
  bl : ∀ b ∈ bl, mg b = none
theorem spF_len {K : Fg} {np : Nat} {c : List RV → Sto → OC} {vs : List V} {H : Hp} {Q : VK} {E : XK} (h : spF K np c vs H Q E) : vs.length = np := h.1
theorem tower {P : Program} {w : World} {K : Fg} {mg : Str → Option Value} {base : Heap} {tab : Tab} {gl : List (Str × D)} {bl : List Str} {fuel : Nat} (T : TabOk K mg tab gl bl) : ∀ (k i : Nat) (t : FnT), tab.lookup i = some t → ∀ (fa : Addr) (fd : FuncData), C8.Fun K t.name t.name t.st fa fd →
    FnG P w K mg base k fa fd t.ps (spF K t.ps.length (callN (dfsOf tab) fuel k i))
  | 0, i, t, ht, fa, fd, F => ⟨fun vs H Q E h => h.1, fun A outer s H args us vs Q E _ _ _ _ _ ⟨_, G, mu, st, as, r, st', _, _, ec, _⟩ => by cases ec⟩
  | k + 1, i, t, ht, fa, fd, F => by
    obtain ⟨oc, od, dV, kV, doc, pm, an, cdv, ct, osl, rfl, lk, hcd⟩ := F.ex
    obtain ⟨_, hchk⟩ := T.fns _ (tab_mem ht)
    unfold chkFn at hchk
    simp only [Bool.and_eq_true, decide_eq_true_eq] at hchk
    obtain ⟨⟨⟨c1, c2⟩, c3⟩, c4⟩ := hchk
    have S := C8.fnScope_by c1
    have lps : t.ps.length = t.df.np := by
      unfold FnT.ps
      rw [List.length_take]; omega
    refine fn_ofG lk hcd S (fun vs H Q E h => h.1) fun A outer s H vs Q E room hg ⟨hl, G, mu, st, as, r, st', R, w', ec, q⟩ => ?_
    have ds : dfsOf tab i = some t.df := by
      unfold dfsOf
      rw [ht]; rfl
    simp only [callN, ds] at ec
    unfold runDf at ec
    cases em : as.mapM evOf with
    | none => rw [em] at ec; cases ec
    | some evs =>
      rw [em] at ec
      dsimp only at ec
      split at ec
      · rename_i hc
        obtain ⟨l1, l2, l3⟩ := args_ev w' em
        have ok : XF (cxOf noX P w K mg base t.N t.name (C8.fnScope t.st) fa cdv A outer s H E).nox noW ⟨callN (dfsOf tab) fuel k, fuel⟩ ⟨t.N, C8.fnScope t.st, fnNames tab, gl, bl, none⟩ := {
          nm := rfl
          sc := rfl
          nd := S.nd
          calm := rfl
          gd := hg
          un := by
            have := room.un
            show (A.deeper _).units + 120 < cLine
            omega
          wm := fun _ _ _ _ _ _ _ _ _ _ _ h => h
          st := fun x h => by
            unfold stB at h
            refine ⟨?_, .inl rfl⟩
            split at h
            · rename_i q; exact .inl q
            · rename_i q; exact .inr q
            · cases h
          gl := T.gl
          kd := S.kind
          po := PassesOwn.never
          we := fun _ _ _ _ _ _ _ _ _ _ _ _ h => h
          bl := T.bl
          cal := fun f x shs hf => by
            obtain ⟨t', e1, rfl, rfl⟩ := tab_names hf
            obtain ⟨⟨fa', fd', F', m1, m2, m3⟩, _⟩ := T.fns _ (tab_mem e1)
            exact ⟨k, fa', fd', t'.ps, tower T k f t' e1 fa' fd' F', room, m1, m2, m3⟩ }
        have nvs : t.df.ns - t.df.np = t.N.length - vs.length := by rw [hl, lps, c3]
        have R0 := R.begin (N := t.N) w' em nvs
        have no : ownless (evs ++ List.replicate (t.df.ns - t.df.np) .non) := fun i xs h => by
          by_cases hi : i < evs.length
          · refine l2 i xs ?_
            unfold OwnAt at h ⊢
            rwa [List.getElem?_append_left hi] at h
          · unfold OwnAt at h
            rw [List.getElem?_append_right (by omega), List.getElem?_replicate] at h
            split at h <;> (rcases h with h | h <;> cases h)
        refine ⟨_, sndSs ⟨callN (dfsOf tab) fuel k, fuel⟩ t.df.body ok _ c4, G, H, mu, mu, _, R0, fin_ok no R.stl ec q⟩
      · cases ec
end Pur
end
section
set_option Elab.async false
set_option linter.all false
set_option maxHeartbeats 2000000
namespace Pur
open PySem PySem.Spec L2 PyProof.Rows
/-! ### the head of a law -/
theorem law_callG {P : Program} {w : World} {K : Fg} {mg mb : Str → Option Value} {k : Nat} {fa a : Addr} {fd : FuncData} {x : Str} {sp : Sp} {s1 : Shared} {us : List Value} {ns : List Int}
    (inK : K.In s1.heap) (gns : s1.heap.Ns mainGlobals mg) (bns : s1.heap.Ns builtinsNs mb) (bbs : ∀ x : Str, x ≠ "__name__" → mb x = bootBuiltins x) (nolim : s1.heap.NoLimit) (nogen : s1.gens = #[])
    (obj : s1.heap.get? a = some { cls := .type "list", data := .seq us.toArray }) (numb : IntsAre us ns) (short : ns.length ≤ sizeLine) (room : Room k callerA) (gd : callerA.guards = some [])
    (F : ∀ base : Heap, K.In base → base.Ns mainGlobals mg → FnG P w K mg base k fa fd [x] sp) (binds : ∀ u : Value, BindsTo s1 fd ⟨[u], []⟩ [(x, u)])
    (promise : ∀ H : Hp, Only H → SqL K H a (ns.map V.int) → sp [.ref a] H (fun v _ => v = .bl true) fun _ _ _ => False) :
    codeAny (model P w) callerA (.call (.ref fa) ⟨[.ref a], []⟩) (fun r s' => r = .ok (.ret (.bool true)) ∧ OldK s1.heap s'.heap ∧ s'.os = s1.os ∧ AllBare s'.gens) s1 := by
  have vals := vals_ints numb
  have main : ∀ H : Hp, Only H → SqL K H a (ns.map V.int) → HOk P w H s1.heap → (∀ b, H b ≠ none → b = a) → (H a ≠ none → K.lookup a = none) →
      codeAny (model P w) callerA (.call (.ref fa) ⟨[.ref a], []⟩) (fun r s' => r = .ok (.ret (.bool true)) ∧ OldK s1.heap s'.heap ∧ s'.os = s1.os ∧ AllBare s'.gens) s1 := by
    intro H only seqA hok onlyA offK
    have kept : ∀ {b : Addr} {o : Obj}, s1.heap.get? b = some o → H b = none → (hidT s1.heap H).get? b = some o := fun e n => hidT_get e n
    have noDict : ∀ {b : Addr} {o : Obj} {es : Array DictEntry} {ep : Nat}, s1.heap.get? b = some o → o.data = .dict es ep → H b = none := fun {b o es ep} e d => by
      cases q : H b with
      | none => rfl
      | some u =>
        obtain rfl : b = a := onlyA b (by rw [q]; simp)
        rw [obj] at e; cases e
        exact absurd (show Data.seq us.toArray _ = Data.dict es ep from d) (by intro z; cases z)
    have nsKept : ∀ {b : Addr} {m : Str → Option Value}, s1.heap.Ns b m → (hidT s1.heap H).Ns b m := fun {b m} ⟨o, es, ep, e, d, r⟩ => ⟨o, es, ep, kept e (noDict e d), d, r⟩
    have inBase : K.In (hidT s1.heap H) := fun b o e => kept (inK b o e) (by
      cases q : H b with
      | none => rfl
      | some u =>
        obtain rfl : b = a := onlyA b (by rw [q]; simp)
        rw [offK (by rw [q]; simp)] at e; cases e)
    have modOk : Mod K mg (hidT s1.heap H) := ⟨inBase, nsKept gns, ⟨mb, nsKept bns, bbs⟩, let ⟨mc, h1, h2⟩ := nolim; ⟨mc, nsKept h1, h2⟩⟩
    have e0 : Env0 P w K mg (hidT s1.heap H) callerA [] s1 H := ⟨rfl, modOk, fun b o e => of_hidT e, Nat.le_of_eq (hidT_size _ _), trivial, fun b hb => absurd (show b ∈ ([] : List Addr) from hb) (by simp), hok, .of_eq nogen⟩
    refine codeAny_mono ((F _ inBase (nsKept gns)).run callerA [] s1 H ⟨[.ref a], []⟩ [.ref a] [.ref a] _ _ room gd e0 (binds (.ref a)) (.cons rfl .nil) (promise H only seqA)) fun r s' h => ?_
    cases r with
    | error e => exact False.elim h
    | ok fl =>
      cases fl with
      | next => exact False.elim h
      | brk => exact False.elim h
      | cont => exact False.elim h
      | ret u =>
        obtain ⟨v, H', os, bare, un, hok', r', q⟩ := h
        obtain rfl : v = .bl true := q
        obtain rfl : u = Value.bool true := r'
        refine ⟨rfl, OldK.of_keep fun b o e => ?_, os, bare⟩
        cases q : H b with
        | none => exact un.keep b o e q (by intro z; exact absurd (show b ∈ ([] : List Addr) from z) (by simp)) (by simp)
        | some u =>
          rcases only b with z | ⟨ob, xs, z⟩
          · rw [q] at z; cases z
          · obtain ⟨e1, _⟩ := hok b _ z
            obtain ⟨e2, _⟩ := hok' b _ (un.frzs b ob _ z)
            rw [e] at e1; cases e1
            exact e2
  cases inside : K.lookup a with
  | some o =>
    have e := inK a o inside
    rw [obj] at e
    cases e
    refine main (fun _ => none) (fun _ => .inl rfl) (.inr ⟨_, us.toArray, _, inside, rfl, rfl, rfl, by rw [List.size_toArray, numb.length]; exact short, by simpa using vals⟩) (fun b u z => by exact nomatch (show (none : Option HO) = some u from z)) (fun b z => absurd rfl z) fun z => absurd rfl z
  | none =>
    refine main (fun b => if b = a then some (.frz { cls := .type "list", data := .seq us.toArray } (.lst (ns.map V.int))) else none) (fun b => ?_) (.inl (.inr ⟨{ cls := .type "list", data := .seq us.toArray }, if_pos rfl⟩)) (fun b u z => ?_) (fun b z => ?_) fun _ => inside
    · by_cases same : b = a
      · exact .inr ⟨_, _, if_pos same⟩
      · exact .inl (if_neg same)
    · by_cases same : b = a
      · have z' := (if_pos same).symm.trans z
        cases z'
        subst same
        exact ⟨obj, by rw [List.length_map]; exact short, us, _, vals, obj⟩
      · have z' := (if_neg same).symm.trans z
        cases z'
    · by_cases same : b = a
      · exact same
      · exact absurd (if_neg same) z
/-- the small language's word for a law -/
def Lawful (tab : Tab) (fuel k il n : Nat) : Prop := ∀ ns : List Int, ns.length ≤ n → ∃ st', callN (dfsOf tab) fuel k il [.dat (.list (ns.map PyData.int))] [] = .ok (.dat (.bool true)) st'
theorem da_ints {K : Fg} {M : Hp} : ∀ ns : List Int, DpAll K M (ns.map V.int) (ns.map PyData.int)
  | [] => .nil
  | n :: ns => .cons (.int n) (da_ints ns)
theorem hid_none {H : Hp} {o : HO} {a : Addr} (h : H a = some o) : hid (fun _ => False) [] [] H a = some o := (hid_yes (fun z => z) no_own).trans h
theorem walkP {l : PySem.W.OpenLaw} {n k il fuel : Nat} {tab : Tab} {t : FnT} {gl : List (Str × D)} {bl : List Str} {q : Program} {loose : List Str} {XP : (Str → Option Value) → Heap → Prop} {YP : World → Heap → Prop} {d : DefRec} {K : Params → PySem.W.Frag} {x : Str}
    (hn : l.most = some n) (hn2 : n ≤ sizeLine) (hdf : d.params.defaults = []) (room : Room k callerA)
    (hY : ∀ (w : World) (h : Heap), YP w h → (K w.params).In h) (ht : tab.lookup il = some t) (hx : t.ps = [x]) (hname : t.name = d.name)
    (F : ∀ (w : World) (mg : Str → Option Value) (h : Heap), (K w.params).In h → h.Ns mainGlobals mg → TabOk (K w.params) mg tab gl bl)
    (hsh : (1, [], [.inl 0]) ∈ t.shs)
    (law : Lawful tab fuel k il n) :
    PySem.W.WalkO q loose XP YP l.row.toRowW d [] (fun f vs => PySem.call f vs) := by
  refine Att.attach_call hn hdf fun w s0 s1 mg mb fa o pm cd doc a vs ns G Y ho hd hcd hmg hobj hints hlen hg => ?_
  have inK := hY w _ Y
  have T := F w mg _ inK G.T.g
  obtain ⟨⟨fa', fd, hF, m1, _, hb⟩, _⟩ := T.fns _ (tab_mem ht)
  rw [hname] at m1
  rw [hmg] at m1
  cases m1
  have m2 : mg t.name = some (.ref fa) := by rw [hname]; exact hmg
  refine law_callG inK G.T.g G.T.b G.T.builtins G.T.nolimit hg hobj hints (Nat.le_trans hlen hn2) room rfl (x := x) (fd := fd) (fun base _ _ => hx ▸ tower (fuel := fuel) T k il t ht fa fd hF) (fun u => ?_) fun H only hS => ?_
  · obtain ⟨zs, lz, bz, hz⟩ := hb _ hsh s1 [u] [] inK rfl rfl
    rw [hx] at bz
    cases hz with
    | pos e t =>
      cases t
      cases e
      exact bz
  obtain ⟨st', e⟩ := law ns hlen
  refine ⟨rfl, fun _ => False, [], [], [.dat (.list (ns.map PyData.int))], .dat (.bool true), st', ⟨rfl, (fun i e q => by simp at q), (fun i j xs ys a h1 _ _ _ => by unfold OwnAt at h1; simp at h1), rfl, (fun m kvs b q1 _ => by simp at q1), List.nodup_nil, (fun b z => z.elim), (fun b o e _ => e), (fun b z => (no_own z).elim), ⟨[], rfl, fun b z => absurd z (by simp)⟩⟩, .cons ?_ .nil, e, fun v mu' H' nx rv => ?_⟩
  · have t : Tm H (hid (fun _ => False) [] [] H) := fun b o e _ => hid_none e
    exact Dp.lst (t.sqL hS) (da_ints ns)
  · have rv : Dp _ _ v (.bool true) := rv
    cases rv; rfl
/-- a def of the module -/
theorem fnk_mk {K : Fg} {mg : Str → Option Value} {h : Heap} {x : Str} {t : FnT} {f : Addr} {oc : Value} {od an : Option Addr} {osl : Array (Option Value)} {dV kV doc pm cdv ct : Value} (inK : K.In h) (G : h.Ns mainGlobals mg) (ex : t.name = x)
    (g : PySem.W.nsIn K mainGlobals x = some (some (.ref f))) (l : K.lookup f = some ⟨oc, od, .func (PySem.W.fnOf x x (C8.fnArgs t.st) (C8.fnBody t.st) (C8.fnScope t.st) dV kV doc pm an cdv ct), osl⟩) (c : PySem.W.codeIn K cdv x = true) (k : PySem.W.keepIn K (.ref f) = true)
    (b : ∀ sh ∈ t.shs, BindOk K (PySem.W.fnOf x x (C8.fnArgs t.st) (C8.fnBody t.st) (C8.fnScope t.st) dV kV doc pm an cdv ct) t.ps sh) : FnK K mg t := by
  subst ex
  exact ⟨f, _, ⟨oc, od, dV, kV, doc, pm, an, cdv, ct, osl, rfl, l, c⟩, PySem.W.mg_of inK G g, k, b⟩
/-- all the values are written, one after the other -/
theorem bind_all {K : Fg} {fd : FuncData} {ps : List Str} {n : Nat} (hn : ps.length = n) (h : ∀ us : List Value, us.length = n → bindArgs fd ⟨us, []⟩ = pure (ps.zip us)) : BindOk K fd ps (n, [], (List.range n).map Sum.inl) := fun s us ws _ l1 l2 => by
  have : ws = [] := List.eq_nil_of_length_eq_zero l2
  subst this
  refine ⟨us, l1.trans hn.symm, .of_eq (h us l1), ?_⟩
  rw [List.append_nil]
  have key : ∀ (m k : Nat), k + m = us.length → HowV K us ((List.range' k m).map Sum.inl) (us.drop k) := by
    intro m
    induction m with
    | zero => intro k hk; rw [List.drop_eq_nil_of_le (by omega)]; exact .nil
    | succ m ih =>
      intro k hk
      have hlt : k < us.length := by omega
      rw [List.range'_succ, List.map_cons, List.drop_eq_getElem_cons hlt]
      exact .pos (List.getElem?_eq_getElem hlt) (ih (k + 1) (by omega))
  have := key n 0 (by omega)
  rw [← List.range_eq_range'] at this
  exact this
/-- a call that leaves defaults to the def -/
theorem bind_kw {K : Fg} {fd : FuncData} {ps : List Str} {n : Nat} {ks : List Str} {how : List (Sum Nat PyData)} {Da : Addr} (lks : List (Str × Value)) (facts : ∀ q ∈ lks, PySem.W.nsIn K Da q.1 = some (some q.2))
    (h : ∀ us ws : List Value, us.length = n → ws.length = ks.length → ∃ zs, zs.length = ps.length ∧ KwChain Da lks (bindArgs fd ⟨us, ks.zip ws⟩) (ps.zip zs) ∧ HowV K (us ++ ws) how zs) : BindOk K fd ps (n, ks, how) := fun s us ws inK l1 l2 => by
  obtain ⟨zs, lz, c, hz⟩ := h us ws l1 l2
  exact ⟨zs, lz, BindsTo.of_looks fun M => KwChain.looks inK facts c, hz⟩
theorem dp_tup {K : Fg} {a : Addr} {od : Option Addr} {its : Array Value} {n : Nat} {sl : Array (Option Value)} {vs : List V} {ds : List D} (l : K.lookup a = some ⟨.type "tuple", od, .seq its n, sl⟩) (hs : its.size ≤ sizeLine) (hv : Vals vs its.toList) (hd : ∀ H, DpAll K H vs ds) : ∀ H, Dp K H (.ref a) (.tuple ds) :=
  fun H => .tup (.inr ⟨_, its, n, l, rfl, rfl, hs, hv⟩) (hd H)
theorem gl_any {K : Fg} {mg : Str → Option Value} {h : Heap} {x : Str} {u : Value} {v : V} {d : D} (inK : K.In h) (G : h.Ns mainGlobals mg) (g : PySem.W.nsIn K mainGlobals x = some (some u)) (r : RelV v u) (hd : ∀ H, Dp K H v d) : ∃ v u, mg x = some u ∧ RelV v u ∧ ∀ H, Dp K H v d :=
  ⟨v, u, PySem.W.mg_of inK G g, r, hd⟩
/-- what a name of the module means -/
theorem gl_int {K : Fg} {mg : Str → Option Value} {h : Heap} {x : Str} {i : Int} {t : Tok} (inK : K.In h) (G : h.Ns mainGlobals mg) (g : PySem.W.nsIn K mainGlobals x = some (some (.int i t))) : ∃ v u, mg x = some u ∧ RelV v u ∧ ∀ H, Dp K H v (.int i) :=
  ⟨.int i, _, PySem.W.mg_of inK G g, ⟨t, rfl⟩, fun _ => .int i⟩
theorem gl_str {K : Fg} {mg : Str → Option Value} {h : Heap} {x i : Str} {t : Tok} (inK : K.In h) (G : h.Ns mainGlobals mg) (g : PySem.W.nsIn K mainGlobals x = some (some (.str i t))) : ∃ v u, mg x = some u ∧ RelV v u ∧ ∀ H, Dp K H v (.str i) :=
  ⟨.str i, _, PySem.W.mg_of inK G g, ⟨t, rfl⟩, fun _ => .str i⟩
theorem gl_tup {K : Fg} {mg : Str → Option Value} {h : Heap} {x : Str} {a : Addr} {od : Option Addr} {its : Array Value} {n : Nat} {sl : Array (Option Value)} {vs : List V} {ds : List D} (inK : K.In h) (G : h.Ns mainGlobals mg) (g : PySem.W.nsIn K mainGlobals x = some (some (.ref a)))
    (l : K.lookup a = some ⟨.type "tuple", od, .seq its n, sl⟩) (hs : its.size ≤ sizeLine) (hv : Vals vs its.toList) (hd : ∀ H, DpAll K H vs ds) : ∃ v u, mg x = some u ∧ RelV v u ∧ ∀ H, Dp K H v (.tuple ds) :=
  ⟨.ref a, _, PySem.W.mg_of inK G g, rfl, fun H => .tup (.inr ⟨_, its, n, l, rfl, rfl, hs, hv⟩) (hd H)⟩
end Pur
end
section
set_option Elab.async false
set_option linter.all false
namespace Pur
open PySem L2
/-! ### the small language, run by rewriting -/

theorem O.bind_ok {α β : Type} {a : α} {s : Sg} {f : α → Sg → O β} : (O.ok a s).bind f = f a s := rfl
def kVar (i : Nat) (s : Sg) : Option EV → O RV
  | some (.dat d) => .ok (.dat d) s
  | some (.own _) => .ok (.slot i) s
  | some (.lent _) => .ok (.slot i) s
  | some (.loc n) => .ok (.loc n) s
  | _ => .stuck
def kTst (s : Sg) : Option D → O Bool
  | some d => .of (tru d) s
  | none => .stuck
def kNeg (s : Sg) : Option D → O RV
  | some (.int i) => .ok (.dat (.int (-i))) s
  | _ => .stuck
def kAnd (C : Cn) (b : CE) (r : RV) (s : Sg) : Option Bool → O RV
  | some true => ev C b s
  | some false => .ok r.weak s
  | none => .stuck
def kOr (C : Cn) (b : CE) (r : RV) (s : Sg) : Option Bool → O RV
  | some true => .ok r.weak s
  | some false => ev C b s
  | none => .stuck
def kBin (o : BOp) (s : Sg) : Option D → Option D → O RV
  | some x, some y => .of (binD o x y) s
  | _, _ => .stuck
def kCmp (o : COp) (s : Sg) : Option D → Option D → O RV
  | some x, some y => .of ((cmpD o x y).map fun k => .dat (.bool k)) s
  | _, _ => .stuck
def kSub (s : Sg) : RV → RV → O RV
  | .loc n, q => match s.sto[n]?, (s.res q).bind keyD with
    | some kvs, some k => .of ((lookK kvs k).map .dat) s
    | _, _ => .stuck
  | r, q => match s.res r, s.res q with
    | some x, some y => .of ((subD x y).map .dat) s
    | _, _ => .stuck
def kSl (l h : Option Int) (s : Sg) : Option D → O RV
  | some x => .of (sliceD x l h) s
  | none => .stuck
def kCall (C : Cn) (f : Nat) (s : Sg) : Option (List RV) → O RV
  | some as => .up (C.call f as s.sto) s
  | none => .stuck
def kBi (b : Bi) (s : Sg) : Option (List D) → O RV
  | some ds => .of (biD b ds) s
  | none => .stuck
def kIsi (t : Ty) (s : Sg) : Option D → O RV
  | some x => .ok (.dat (.bool (isiD x t))) s
  | none => .stuck
def kTup (ds : List D) (s : Sg) : O RV := if ds.length ≤ lim then .ok (.dat (.tuple ds)) s else .stuck
def kLst (ds : List D) (s : Sg) : O RV := if ds.length ≤ lim then .ok (.fresh ds) s else .stuck
def kDict (ks : List Ky) (ds : List D) (s : Sg) : O RV := if ks.length = ds.length ∧ ks.length ≤ 15 then
      .ok (.loc s.sto.length) { s with sto := s.sto ++ [(ks.zip ds).foldl (fun acc kv => putKy acc kv.1 kv.2) []] } else .stuck
def kComp (C : Cn) (tg : Tg) (vs : List Nat) (cond : CEs) (e : CE) (p : List D × Option Nat) (s : Sg) : Bool → O RV
  | false => .stuck
  | true => (compL (turnF C tg vs cond e) p.1 [] { s with env := wipeE (lendE p.2 s.env) vs }).bind fun ys s7 => .ok (.fresh ys) { s7 with env := unlendE p.2 (backE s.env s7.env vs) }
def kIte (C : Cn) (a b : CE) (s : Sg) : Bool → O RV
  | true => ev C a s
  | false => ev C b s
def kTs (C : Cn) (cs : CEs) (s : Sg) : Bool → O Bool
  | true => evTs C cs s
  | false => .ok false s
def kRev (s : Sg) : Option D → O RV
  | some x => .of (revD x) s
  | none => .stuck
def kMth (m : Mth) (s : Sg) : Option D → Option (List D) → O RV
  | some x, some ds => .of ((mthD m x ds).map .dat) s
  | _, _ => .stuck
def kRange (s : Sg) : Option (List D) → O (List D × Option Nat)
  | some xs => if xs.length ≤ lim then .ok (xs, none) s else .stuck
  | none => .stuck
def kSeq (r : RV) (s : Sg) : Option (List D) → O (List D × Option Nat)
  | some xs => if xs.length ≤ lim then .ok (xs, lends s r) s else .stuck
  | none => .stuck
def kEnum (k : Int) (r : RV) (s : Sg) : Option D → O (List D × Option Nat)
  | some (.list xs) => if okI k ∧ xs.length ≤ lim then .ok (enumD k xs, lends s r) s else .stuck
  | some (.tuple xs) => if okI k ∧ xs.length ≤ lim then .ok (enumD k xs, none) s else .stuck
  | some (.str z) => if okI k ∧ z.length ≤ lim then .ok (enumD k (z.cps.toList.map fun c => .str ⟨#[c]⟩), none) s else .stuck
  | _ => .stuck
def kZip (st : Bool) (s : Sg) : D → D → O (List D × Option Nat)
  | .list xs, .list ys => if xs.length ≤ lim ∧ (st = true → False) then .ok (zipD xs ys, none) s else .stuck
  | .tuple xs, .tuple ys => if xs.length ≤ lim ∧ (st = true → xs.length = ys.length) then .ok (zipD xs ys, none) s else .stuck
  | _, _ => .stuck
def kPutJ (i : Nat) (d : D) (s : Sg) (xs : List D) : Option Nat → O Fl
  | some j => .ok .next { s with env := s.env.set i (.own (xs.set j d)) }
  | none => .stuck
def kPutI (i : Nat) (d kd : D) (s : Sg) : Option EV → O Fl
  | some (.own xs) => (match kd with
    | .int k => kPutJ i d s xs (L2.ixN xs.length k)
    | _ => .stuck)
  | _ => .stuck
def kPuti2 (i : Nat) (d : D) (s : Sg) : Option D → O Fl
  | some kd => kPutI i d kd s s.env[i]?
  | none => .stuck
def kPuti1 (C : Cn) (i : Nat) (k : CE) (d : D) (s : Sg) : Option EV → O Fl
  | some (.own _) => (ev C k s).bind fun u s4 => kPuti2 i d s4 (s4.res u)
  | _ => .stuck
def kO (s : Sg) : Option D → O (Option Int)
  | some (.int i) => .ok (some i) s
  | _ => .stuck
def kApp (i : Nat) (d : D) (s : Sg) : Option EV → O RV
  | some (.own xs) => if xs.length < lim then .ok (.dat .none) { s with env := s.env.set i (.own (xs ++ [d])) } else .stuck
  | _ => .stuck
def kApp0 (C : Cn) (i : Nat) (e : CE) (s : Sg) : Option EV → O RV
  | some (.own _) => (ev C e s).bind fun r s1 => (s1.escD r).bind fun d s2 => kApp i d s2 s2.env[i]?
  | _ => .stuck
def kExt (i : Nat) (s : Sg) : Option D → Option EV → O RV
  | some (.list ys), some (.own xs) => if xs.length + ys.length ≤ lim then .ok (.dat .none) { s with env := s.env.set i (.own (xs ++ ys)) } else .stuck
  | _, _ => .stuck
def kExt0 (C : Cn) (i : Nat) (e : CE) (s : Sg) : Option EV → O RV
  | some (.own _) => (ev C e s).bind fun r s1 => kExt i s1 (s1.res r) s1.env[i]?
  | _ => .stuck
section
variable (C : Cn) (s : Sg)
theorem ev_var (i : Nat) : ev C (.var i) s = kVar i s s.env[i]? := by
  unfold ev kVar
  cases s.env[i]? with
  | none => rfl
  | some e => cases e <;> rfl
theorem ev_lit (d : D) : ev C (.lit d) s = .ok (.dat d) s := rfl
theorem ev_glob (x : Str) (d : D) : ev C (.glob x d) s = .ok (.dat d) s := rfl
theorem tst_eq (m : O RV) : m.tst = m.bind fun r s1 => kTst s1 (s1.res r) := by
  unfold O.tst
  cases m with
  | ok r s1 =>
    show O.of ((s1.res r).bind tru) s1 = kTst s1 (s1.res r)
    cases s1.res r <;> rfl
  | exc _ _ _ => rfl
  | stuck => rfl
theorem bindq {α β : Type} {m : O α} {f g : α → Sg → O β} (h : ∀ a s, f a s = g a s) : m.bind f = m.bind g := by
  cases m with
  | ok a s => exact h a s
  | exc _ _ _ => rfl
  | stuck => rfl
theorem ev_rev (a : CE) : ev C (.rev a) s = (ev C a s).bind fun r s1 => kRev s1 (s1.res r) := bindq fun r s1 => by
  try dsimp only
  cases s1.res r <;> rfl
theorem ev_mth (m : Mth) (a : CE) (es : CEs) : ev C (.mth m a es) s = (ev C a s).bind fun r s1 => (evRs C es s1).bind fun rs s2 => kMth m s2 (s2.res r) (rs.mapM s2.res) := bindq fun r s1 => bindq fun rs s2 => by
  try dsimp only
  cases s2.res r <;> cases rs.mapM s2.res <;> rfl
theorem ev_neg (a : CE) : ev C (.neg a) s = (ev C a s).bind fun r s1 => kNeg s1 (s1.res r) := bindq fun r s1 => by
  try dsimp only
  cases s1.res r with
  | none => rfl
  | some d => cases d <;> rfl
theorem ev_nt (a : CE) : ev C (.nt a) s = (ev C a s).tst.bind fun k s1 => .ok (.dat (.bool !k)) s1 := rfl
theorem ev_and (a b : CE) : ev C (.and a b) s = (ev C a s).bind fun r s1 => kAnd C b r s1 ((s1.res r).bind tru) := bindq fun r s1 => by
  try dsimp only
  cases (s1.res r).bind tru with
  | none => rfl
  | some d => cases d <;> rfl
theorem ev_or (a b : CE) : ev C (.or a b) s = (ev C a s).bind fun r s1 => kOr C b r s1 ((s1.res r).bind tru) := bindq fun r s1 => by
  try dsimp only
  cases (s1.res r).bind tru with
  | none => rfl
  | some d => cases d <;> rfl
theorem ev_bin (o : BOp) (a b : CE) : ev C (.bin o a b) s = (ev C a s).bind fun r s1 => (ev C b s1).bind fun q s2 => kBin o s2 (s2.res r) (s2.res q) := bindq fun r s1 => bindq fun q s2 => by
  try dsimp only
  cases s2.res r <;> cases s2.res q <;> rfl
theorem ev_cmp (o : COp) (a b : CE) : ev C (.cmp o a b) s = (ev C a s).bind fun r s1 => (ev C b s1).bind fun q s2 => kCmp o s2 (s2.res r) (s2.res q) := bindq fun r s1 => bindq fun q s2 => by
  try dsimp only
  cases s2.res r <;> cases s2.res q <;> rfl
theorem ev_ite (c a b : CE) : ev C (.ite c a b) s = (ev C c s).tst.bind fun k s1 => kIte C a b s1 k := bindq fun k s1 => by cases k <;> rfl
theorem ev_tup (es : CEs) : ev C (.tup es) s = (evDs C es s).bind fun ds s1 => kTup ds s1 := rfl
theorem ev_lst (es : CEs) : ev C (.lst es) s = (evDs C es s).bind fun ds s1 => kLst ds s1 := rfl
theorem ev_sub (a i : CE) : ev C (.sub a i) s = (ev C a s).bind fun r s1 => (ev C i s1).bind fun q s2 => kSub s2 r q := bindq fun r s1 => bindq fun q s2 => by
  try dsimp only
  cases r <;> rfl
theorem ev_slice (a : CE) (lo hi : CEo) : ev C (.slice a lo hi) s = (ev C a s).bind fun r s1 => (evO C lo s1).bind fun l s2 => (evO C hi s2).bind fun h s3 => kSl l h s3 (s3.res r) := bindq fun r s1 => bindq fun q s2 => bindq fun h s3 => by
  try dsimp only
  cases s3.res r <;> rfl
theorem ev_call (f : Nat) (es ks : CEs) (how : List (Sum Nat D)) : ev C (.call f es ks how) s = (evKs C es s).bind fun rs s1 => (evKs C ks s1).bind fun qs s2 => kCall C f s2 (argsOf (rs ++ qs) how) := bindq fun r s1 => bindq fun q s2 => by
  try dsimp only
  cases argsOf (r ++ q) how <;> rfl
theorem ev_bi (b : Bi) (es : CEs) : ev C (.bi b es) s = (evRs C es s).bind fun rs s1 => kBi b s1 (rs.mapM s1.res) := bindq fun r s1 => by
  try dsimp only
  cases r.mapM s1.res <;> rfl
theorem ev_isi (a : CE) (t : Ty) : ev C (.isi a t) s = (ev C a s).bind fun r s1 => kIsi t s1 (s1.res r) := bindq fun r s1 => by
  try dsimp only
  cases s1.res r <;> rfl
theorem ev_dict (ks : List Ky) (es : CEs) : ev C (.dict ks es) s = (evDs C es s).bind fun ds s1 => kDict ks ds s1 := rfl
theorem ev_comp (tg : Tg) (vs : List Nat) (it : CI) (cond : CEs) (e : CE) : ev C (.comp tg vs it cond e) s = (evI C it s).bind fun p s1 => kComp C tg vs cond e p s1 (vs.all (looseAt s1.env)) := bindq fun p s1 => by
  try dsimp only
  cases vs.all (looseAt s1.env) <;> rfl
theorem ev_app (i : Nat) (e : CE) : ev C (.app i e) s = kApp0 C i e s s.env[i]? := by
  have e0 : ev C (.app i e) s = match s.env[i]? with
    | some (.own _) => (ev C e s).bind fun r s1 => (s1.escD r).bind fun d s2 => match s2.env[i]? with
      | some (.own xs) => if xs.length < lim then .ok (.dat .none) { s2 with env := s2.env.set i (.own (xs ++ [d])) } else .stuck
      | _ => .stuck
    | _ => .stuck := rfl
  rw [e0]
  unfold kApp0
  cases s.env[i]? with
  | none => rfl
  | some x =>
    cases x with
    | own _ =>
      refine bindq fun r s1 => bindq fun d s2 => ?_
      try dsimp only
      cases s2.env[i]? with
      | none => rfl
      | some x => cases x <;> rfl
    | _ => rfl
theorem ev_ext (i : Nat) (e : CE) : ev C (.ext i e) s = kExt0 C i e s s.env[i]? := by
  have e0 : ev C (.ext i e) s = match s.env[i]? with
    | some (.own _) => (ev C e s).bind fun r s1 => match s1.res r, s1.env[i]? with
      | some (.list ys), some (.own xs) => if xs.length + ys.length ≤ lim then .ok (.dat .none) { s1 with env := s1.env.set i (.own (xs ++ ys)) } else .stuck
      | _, _ => .stuck
    | _ => .stuck := rfl
  rw [e0]
  unfold kExt0
  cases s.env[i]? with
  | none => rfl
  | some x =>
    cases x with
    | own _ =>
      refine bindq fun r s1 => ?_
      try dsimp only
      cases s1.res r with
      | none => rfl
      | some d =>
        cases d with
        | list ys =>
          cases s1.env[i]? with
          | none => rfl
          | some x => cases x <;> rfl
        | _ => rfl
    | _ => rfl
theorem evTs_nil : evTs C .nil s = .ok true s := rfl
theorem evTs_cons (c : CE) (cs : CEs) : evTs C (.cons c cs) s = (ev C c s).tst.bind fun k s1 => kTs C cs s1 k := bindq fun k s1 => by cases k <;> rfl
theorem evO_no : evO C .no s = .ok none s := rfl
theorem evO_yes (e : CE) : evO C (.yes e) s = (ev C e s).bind fun r s1 => kO s1 (s1.res r) := bindq fun r s1 => by
  try dsimp only
  cases s1.res r with
  | none => rfl
  | some d => cases d <;> rfl
theorem evI_seq (e : CE) : evI C (.seq e) s = (ev C e s).bind fun r s1 => kSeq r s1 ((s1.res r).bind seqD) := bindq fun r s1 => by
  try dsimp only
  cases (s1.res r).bind seqD <;> rfl
theorem evI_range (es : CEs) : evI C (.range es) s = (evDs C es s).bind fun ds s1 => kRange s1 (rangeD ds) := bindq fun ds s1 => by
  cases rangeD ds with
  | none => rfl
  | some xs =>
    show O.of (if xs.length ≤ lim then some (xs, none) else none) s1 = if xs.length ≤ lim then .ok (xs, none) s1 else .stuck
    split <;> rfl
theorem evI_enum (k : Int) (e : CE) : evI C (.enum k e) s = (ev C e s).bind fun r s1 => kEnum k r s1 (s1.res r) := bindq fun r s1 => by
  try dsimp only
  cases s1.res r with
  | none => rfl
  | some d => cases d <;> rfl
theorem evDs_nil : evDs C .nil s = .ok [] s := rfl
theorem evDs_cons (e : CE) (es : CEs) : evDs C (.cons e es) s = (ev C e s).bind fun r s1 => (s1.escD r).bind fun d s2 => (evDs C es s2).bind fun ds s3 => .ok (d :: ds) s3 := rfl
theorem evKs_nil : evKs C .nil s = .ok [] s := rfl
theorem evKs_cons (e : CE) (es : CEs) : evKs C (.cons e es) s = (ev C e s).bind fun r s1 => (s1.esc r).bind fun d s2 => (evKs C es s2).bind fun ds s3 => .ok (d :: ds) s3 := rfl
theorem evRs_nil : evRs C .nil s = .ok [] s := rfl
theorem evRs_cons (e : CE) (es : CEs) : evRs C (.cons e es) s = (ev C e s).bind fun r s1 => (evRs C es s1).bind fun ds s3 => .ok (r :: ds) s3 := rfl
def kEsc (s : Sg) (i : Nat) : Option EV → O RV
  | some (.own xs) => .ok (.dat (.list xs)) { s with env := s.env.set i (.dat (.list xs)) }
  | some (.dat d) => .ok (.dat d) s
  | _ => .stuck
theorem esc_dat (d : D) : s.esc (.dat d) = .ok (.dat d) s := rfl
theorem esc_fresh (xs : List D) : s.esc (.fresh xs) = .ok (.dat (.list xs)) s := rfl
theorem esc_loc (n : Nat) : s.esc (.loc n) = .ok (.loc n) s := rfl
theorem esc_slot (i : Nat) : s.esc (.slot i) = kEsc s i s.env[i]? := by
  unfold Sg.esc kEsc
  try dsimp only
  all_goals (rcases s.env[i]? with _ | x <;> first | rfl | (cases x <;> rfl))
theorem escD_dat (d : D) : s.escD (.dat d) = .ok d s := rfl
theorem escD_fresh (xs : List D) : s.escD (.fresh xs) = .ok (.list xs) s := rfl
def kEscD (s : Sg) (i : Nat) : Option EV → O D
  | some (.own xs) => .ok (.list xs) { s with env := s.env.set i (.dat (.list xs)) }
  | some (.dat d) => .ok d s
  | _ => .stuck
theorem escD_slot (i : Nat) : s.escD (.slot i) = kEscD s i s.env[i]? := by
  unfold Sg.escD
  rw [esc_slot]
  unfold kEscD kEsc
  cases s.env[i]? with
  | none => rfl
  | some x => cases x <;> rfl
theorem res_dat (d : D) : s.res (.dat d) = some d := rfl
theorem res_fresh (d : List D) : s.res (.fresh d) = some (.list d) := rfl
def kRes : Option EV → Option D
  | some (.own xs) => some (.list xs)
  | some (.lent xs) => some (.list xs)
  | some (.dat d) => some d
  | _ => none
theorem res_slot (i : Nat) : s.res (.slot i) = kRes s.env[i]? := by
  unfold Sg.res kRes
  try dsimp only
  all_goals (rcases s.env[i]? with _ | x <;> first | rfl | (cases x <;> rfl))
/-! statements -/
def kSeqS (C : Cn) (cs : CSs) (s : Sg) : Fl → O Fl
  | .next => exs C cs s
  | fl => .ok fl s
theorem exs_nil : exs C .nil s = .ok .next s := rfl
theorem exs_cons (c : CS) (cs : CSs) : exs C (.cons c cs) s = (ex C c s).bind fun fl s1 => kSeqS C cs s1 fl := bindq fun fl s1 => by cases fl <;> rfl
theorem ex_asg (t : Tg) (e : CE) : ex C (.asg t e) s = (ev C e s).bind fun r s1 => (setR t r s1).bind fun _ s2 => .ok .next s2 := rfl
theorem ex_par (ts : Tgs) (es : CEs) : ex C (.par ts es) s = (evPs C es s).bind fun rs s1 => (setRs ts rs s1).bind fun _ s2 => .ok .next s2 := rfl
def kPut (q : RV) (d : D) (s : Sg) : Option D → O Fl
  | some kd => putS s q kd d
  | none => .stuck
theorem ex_put (o k e : CE) : ex C (.put o k e) s = (ev C e s).bind fun r s1 => (s1.escD r).bind fun d s2 => (ev C o s2).bind fun q s3 => (ev C k s3).bind fun u s4 => kPut q d s4 (s4.res u) := bindq fun r s1 => bindq fun d s2 => bindq fun q s3 => bindq fun u s4 => by
  try dsimp only
  cases s4.res u <;> rfl
theorem ex_expr (e : CE) : ex C (.expr e) s = (ev C e s).bind fun _ s1 => .ok .next s1 := rfl
theorem ex_ret (e : CE) : ex C (.ret e) s = (ev C e s).bind fun r s1 => .ok (.ret r) s1 := rfl
theorem ex_retN : ex C .retN s = .ok (.ret (.dat .none)) s := rfl
def kIf (C : Cn) (a b : CSs) (s : Sg) : Bool → O Fl
  | true => exs C a s
  | false => exs C b s
theorem ex_ifs (c : CE) (a b : CSs) : ex C (.ifs c a b) s = (ev C c s).tst.bind fun k s1 => kIf C a b s1 k := bindq fun k s1 => by cases k <;> rfl
theorem ex_for (t : Tg) (it : CI) (b : CSs) : ex C (.for t it b) s = (evI C it s).bind fun p s1 => (forL t (exs C b) p.1 { s1 with env := lendE p.2 s1.env }).unlend p.2 := rfl
theorem ex_pass : ex C .pass s = .ok .next s := rfl
theorem ex_brk : ex C .brk s = .ok .brk s := rfl
theorem ex_cont : ex C .cont s = .ok .cont s := rfl
theorem evPs_nil : evPs C .nil s = .ok [] s := rfl
def kP (s : Sg) : RV → O RV
  | .fresh xs => .ok (.fresh xs) s
  | r => s.esc r
theorem evPs_cons (e : CE) (es : CEs) : evPs C (.cons e es) s = (ev C e s).bind fun r s1 => (kP s1 r).bind fun q s2 => (evPs C es s2).bind fun qs s3 => .ok (q :: qs) s3 := bindq fun r s1 => by
  cases r <;> rfl
def kSet (s : Sg) (i : Nat) (e : EV) : Bool → O Unit
  | true => .ok () { s with env := s.env.set i e }
  | false => .stuck
theorem setR_dat (i : Nat) (d : D) : setR (.nm i) (.dat d) s = kSet s i (.dat d) (freeAt s.env i) := by
  show (match setT (.nm i) d s with | some s2 => O.ok () s2 | none => .stuck) = _
  rw [setT]
  cases freeAt s.env i <;> rfl
theorem setR_fresh (i : Nat) (xs : List D) : setR (.nm i) (.fresh xs) s = kSet s i (.own xs) (freeAt s.env i) := by
  rw [setR]
  cases freeAt s.env i <;> rfl
theorem setR_loc (i : Nat) (n : Nat) : setR (.nm i) (.loc n) s = kSet s i (.loc n) (freeAt s.env i) := by
  rw [setR]
  cases freeAt s.env i <;> rfl
theorem setR_slot (i j : Nat) : setR (.nm i) (.slot j) s = (s.escD (.slot j)).bind fun d s1 => kSet s1 i (.dat d) (freeAt s1.env i) := by
  show (s.escD (.slot j)).bind (fun d s1 => match setT (.nm i) d s1 with | some s2 => O.ok () s2 | none => .stuck) = _
  exact bindq fun d s1 => by
    try dsimp only
    rw [setT]
    cases freeAt s1.env i <;> rfl
def kSetT (s : Sg) : Option Sg → O Unit
  | some s1 => .ok () s1
  | none => .stuck
theorem setR_tup (ts : Tgs) (d : D) : setR (.tup ts) (.dat d) s = kSetT s (setT (.tup ts) d s) := by
  show (match setT (.tup ts) d s with | some s2 => O.ok () s2 | none => .stuck) = _
  cases setT (.tup ts) d s <;> rfl
def kSetS (s : Sg) (i : Nat) (d : D) : Bool → Option Sg
  | true => some { s with env := s.env.set i (.dat d) }
  | false => none
theorem setT_nm (i : Nat) (d : D) : setT (.nm i) d s = kSetS s i d (freeAt s.env i) := by
  rw [setT]
  cases freeAt s.env i <;> rfl
theorem setT_tup (ts : Tgs) (xs : List D) : setT (.tup ts) (.tuple xs) s = setTs ts xs s := by rw [setT]
def kSetTs (ts : Tgs) (ds : List D) : Option Sg → Option Sg
  | some s1 => setTs ts ds s1
  | none => none
theorem setTs_nil : setTs .nil [] s = some s := by rw [setTs]
theorem setTs_cons (t : Tg) (ts : Tgs) (d : D) (ds : List D) : setTs (.cons t ts) (d :: ds) s = kSetTs ts ds (setT t d s) := by
  rw [setTs]
  cases setT t d s <;> rfl
theorem setRs_nil2 : setRs .nil [] s = .ok () s := by rw [setRs]
theorem setRs_cons (t : Tg) (ts : Tgs) (r : RV) (rs : List RV) : setRs (.cons t ts) (r :: rs) s = (setR t r s).bind fun _ s1 => setRs ts rs s1 := by rw [setRs]
end
def kFree : Option EV → Bool
  | some (.lent _) => false
  | some _ => true
  | none => false
theorem freeAt_eq (env : List EV) (i : Nat) : freeAt env i = kFree env[i]? := by
  unfold freeAt kFree
  cases env[i]? with
  | none => rfl
  | some x => cases x <;> rfl
def kLoose : Option EV → Bool
  | some (.lent _) => false
  | some (.own _) => false
  | some _ => true
  | none => false
theorem looseAt_eq (env : List EV) (i : Nat) : looseAt env i = kLoose env[i]? := by
  unfold looseAt kLoose
  cases env[i]? with
  | none => rfl
  | some x => cases x <;> rfl
def kRun (C : Cn) (d : Df) (as : List RV) (st : Sto) : Option (List EV) → OC
  | some evs => if as.length = d.np ∧ d.np ≤ d.ns then fin st.length (exs C d.body ⟨evs ++ List.replicate (d.ns - d.np) .non, st⟩) else .stuck
  | none => .stuck
theorem callN_eq {ds : Nat → Option Df} {fuel k f : Nat} {as : List RV} {st : Sto} {d : Df} (h : ds f = some d) : callN ds fuel (k + 1) f as st = kRun ⟨callN ds fuel k, fuel⟩ d as st (as.mapM evOf) := by
  simp only [callN, h]
  unfold runDf kRun
  cases as.mapM evOf <;> rfl

/-! the same with named ways on, so that rewriting goes strictly from the inside -/
def cTst (r : RV) (s : Sg) : O Bool := kTst s (s.res r)
def cNeg (r : RV) (s : Sg) : O RV := kNeg s (s.res r)
def cNt (k : Bool) (s : Sg) : O RV := .ok (.dat (.bool !k)) s
def cAnd (C : Cn) (b : CE) (r : RV) (s : Sg) : O RV := kAnd C b r s ((s.res r).bind tru)
def cOr (C : Cn) (b : CE) (r : RV) (s : Sg) : O RV := kOr C b r s ((s.res r).bind tru)
def cBin2 (o : BOp) (r q : RV) (s : Sg) : O RV := kBin o s (s.res r) (s.res q)
def cBin (C : Cn) (o : BOp) (b : CE) (r : RV) (s : Sg) : O RV := (ev C b s).bind (cBin2 o r)
def cCmp2 (o : COp) (r q : RV) (s : Sg) : O RV := kCmp o s (s.res r) (s.res q)
def cCmp (C : Cn) (o : COp) (b : CE) (r : RV) (s : Sg) : O RV := (ev C b s).bind (cCmp2 o r)
def cIte (C : Cn) (a b : CE) (k : Bool) (s : Sg) : O RV := kIte C a b s k
def cTup (ds : List D) (s : Sg) : O RV := kTup ds s
def cLst (ds : List D) (s : Sg) : O RV := kLst ds s
def cSub2 (r q : RV) (s : Sg) : O RV := kSub s r q
def cSub (C : Cn) (b : CE) (r : RV) (s : Sg) : O RV := (ev C b s).bind (cSub2 r)
def cSl3 (r : RV) (l h : Option Int) (s : Sg) : O RV := kSl l h s (s.res r)
def cSl2 (C : Cn) (hi : CEo) (r : RV) (l : Option Int) (s : Sg) : O RV := (evO C hi s).bind (cSl3 r l)
def cSl (C : Cn) (lo hi : CEo) (r : RV) (s : Sg) : O RV := (evO C lo s).bind (cSl2 C hi r)
def cCall2 (C : Cn) (f : Nat) (how : List (Sum Nat D)) (rs qs : List RV) (s : Sg) : O RV := kCall C f s (argsOf (rs ++ qs) how)
def cCall (C : Cn) (f : Nat) (ks : CEs) (how : List (Sum Nat D)) (rs : List RV) (s : Sg) : O RV := (evKs C ks s).bind (cCall2 C f how rs)
def cBi (b : Bi) (rs : List RV) (s : Sg) : O RV := kBi b s (rs.mapM s.res)
def cIsi (t : Ty) (r : RV) (s : Sg) : O RV := kIsi t s (s.res r)
def cDict (ks : List Ky) (ds : List D) (s : Sg) : O RV := kDict ks ds s
def cComp (C : Cn) (tg : Tg) (vs : List Nat) (cond : CEs) (e : CE) (p : List D × Option Nat) (s : Sg) : O RV := kComp C tg vs cond e p s (vs.all (looseAt s.env))
def cTs (C : Cn) (cs : CEs) (k : Bool) (s : Sg) : O Bool := kTs C cs s k
def cO (r : RV) (s : Sg) : O (Option Int) := kO s (s.res r)
def cSeq (r : RV) (s : Sg) : O (List D × Option Nat) := kSeq r s ((s.res r).bind seqD)
def cRange (ds : List D) (s : Sg) : O (List D × Option Nat) := kRange s (rangeD ds)
def cRev (r : RV) (s : Sg) : O RV := kRev s (s.res r)
def cMth2 (m : Mth) (r : RV) (rs : List RV) (s : Sg) : O RV := kMth m s (s.res r) (rs.mapM s.res)
def cMth (C : Cn) (m : Mth) (es : CEs) (r : RV) (s : Sg) : O RV := (evRs C es s).bind (cMth2 m r)
def cZip4 (st : Bool) (x y : D) (s : Sg) : O (List D × Option Nat) := kZip st s x y
def cZip3 (st : Bool) (x : D) (q : RV) (s : Sg) : O (List D × Option Nat) := (s.escD q).bind (cZip4 st x)
def cZip2 (C : Cn) (st : Bool) (b : CE) (x : D) (s : Sg) : O (List D × Option Nat) := (ev C b s).bind (cZip3 st x)
def cZip (C : Cn) (st : Bool) (b : CE) (r : RV) (s : Sg) : O (List D × Option Nat) := (s.escD r).bind (cZip2 C st b)
def cPuti2 (i : Nat) (d : D) (u : RV) (s : Sg) : O Fl := kPuti2 i d s (s.res u)
def cPuti1 (C : Cn) (i : Nat) (k : CE) (d : D) (s : Sg) : O Fl := kPuti1 C i k d s s.env[i]?
def cPuti (C : Cn) (i : Nat) (k : CE) (r : RV) (s : Sg) : O Fl := (s.escD r).bind (cPuti1 C i k)
def cEnum (k : Int) (r : RV) (s : Sg) : O (List D × Option Nat) := kEnum k r s (s.res r)
def cDs3 (d : D) (ds : List D) (s : Sg) : O (List D) := .ok (d :: ds) s
def cDs2 (C : Cn) (es : CEs) (d : D) (s : Sg) : O (List D) := (evDs C es s).bind (cDs3 d)
def cDs (C : Cn) (es : CEs) (r : RV) (s : Sg) : O (List D) := (s.escD r).bind (cDs2 C es)
def cKs3 (d : RV) (ds : List RV) (s : Sg) : O (List RV) := .ok (d :: ds) s
def cKs2 (C : Cn) (es : CEs) (d : RV) (s : Sg) : O (List RV) := (evKs C es s).bind (cKs3 d)
def cKs (C : Cn) (es : CEs) (r : RV) (s : Sg) : O (List RV) := (s.esc r).bind (cKs2 C es)
def cRs (C : Cn) (es : CEs) (r : RV) (s : Sg) : O (List RV) := (evRs C es s).bind (cKs3 r)
def cPs2 (C : Cn) (es : CEs) (d : RV) (s : Sg) : O (List RV) := (evPs C es s).bind (cKs3 d)
def cPs (C : Cn) (es : CEs) (r : RV) (s : Sg) : O (List RV) := (kP s r).bind (cPs2 C es)
def cNext {α : Type} (_ : α) (s : Sg) : O Fl := .ok .next s
def cAug3 (i : Nat) (s : Sg) : Option D → O Fl
  | some d => (kSetT s (setT (.nm i) d s)).bind cNext
  | none => .stuck
def cAug2 (i : Nat) (o : BOp) (x : D) (s : Sg) : Option D → O Fl
  | some y => cAug3 i s (augD o x y)
  | none => .stuck
def cAug (i : Nat) (o : BOp) (x : D) (r : RV) (s : Sg) : O Fl := cAug2 i o x s (s.res r)
def kAug (C : Cn) (i : Nat) (o : BOp) (e : CE) (s : Sg) : Option D → O Fl
  | some x => (ev C e s).bind (cAug i o x)
  | none => .stuck
def cAsg (t : Tg) (r : RV) (s : Sg) : O Fl := (setR t r s).bind cNext
def cPar (ts : Tgs) (rs : List RV) (s : Sg) : O Fl := (setRs ts rs s).bind cNext
def cSetRs (ts : Tgs) (rs : List RV) (_ : Unit) (s : Sg) : O Unit := setRs ts rs s
def cPut4 (d : D) (q u : RV) (s : Sg) : O Fl := kPut q d s (s.res u)
def cPut3 (C : Cn) (k : CE) (d : D) (q : RV) (s : Sg) : O Fl := (ev C k s).bind (cPut4 d q)
def cPut2 (C : Cn) (o k : CE) (d : D) (s : Sg) : O Fl := (ev C o s).bind (cPut3 C k d)
def cPut (C : Cn) (o k : CE) (r : RV) (s : Sg) : O Fl := (s.escD r).bind (cPut2 C o k)
def cRet (r : RV) (s : Sg) : O Fl := .ok (.ret r) s
def cIf (C : Cn) (a b : CSs) (k : Bool) (s : Sg) : O Fl := kIf C a b s k
def cSeqS (C : Cn) (cs : CSs) (fl : Fl) (s : Sg) : O Fl := kSeqS C cs s fl
def cFor (C : Cn) (t : Tg) (b : CSs) (p : List D × Option Nat) (s : Sg) : O Fl := (forL t (exs C b) p.1 { s with env := lendE p.2 s.env }).unlend p.2
def cSetSlot (i : Nat) (d : D) (s : Sg) : O Unit := kSet s i (.dat d) (freeAt s.env i)
def cApp2 (i : Nat) (d : D) (s : Sg) : O RV := kApp i d s s.env[i]?
def cApp (i : Nat) (r : RV) (s : Sg) : O RV := (s.escD r).bind (cApp2 i)
def cExt (i : Nat) (r : RV) (s : Sg) : O RV := kExt i s (s.res r) s.env[i]?
def cComp7 (vs : List Nat) (ln : Option Nat) (env : List EV) (ys : List D) (s7 : Sg) : O RV := .ok (.fresh ys) { s7 with env := unlendE ln (backE env s7.env vs) }
section
variable (C : Cn) (s : Sg)
theorem r_tst (m : O RV) : m.tst = m.bind cTst := tst_eq m
theorem r_neg (a : CE) : ev C (.neg a) s = (ev C a s).bind cNeg := ev_neg C s a
theorem r_nt (a : CE) : ev C (.nt a) s = (ev C a s).tst.bind cNt := ev_nt C s a
theorem r_and (a b : CE) : ev C (.and a b) s = (ev C a s).bind (cAnd C b) := ev_and C s a b
theorem r_or (a b : CE) : ev C (.or a b) s = (ev C a s).bind (cOr C b) := ev_or C s a b
theorem r_bin (o : BOp) (a b : CE) : ev C (.bin o a b) s = (ev C a s).bind (cBin C o b) := ev_bin C s o a b
theorem r_cmp (o : COp) (a b : CE) : ev C (.cmp o a b) s = (ev C a s).bind (cCmp C o b) := ev_cmp C s o a b
theorem r_ite (c a b : CE) : ev C (.ite c a b) s = (ev C c s).tst.bind (cIte C a b) := ev_ite C s c a b
theorem r_tup (es : CEs) : ev C (.tup es) s = (evDs C es s).bind cTup := rfl
theorem r_lst (es : CEs) : ev C (.lst es) s = (evDs C es s).bind cLst := rfl
theorem r_sub (a i : CE) : ev C (.sub a i) s = (ev C a s).bind (cSub C i) := ev_sub C s a i
theorem r_slice (a : CE) (lo hi : CEo) : ev C (.slice a lo hi) s = (ev C a s).bind (cSl C lo hi) := ev_slice C s a lo hi
theorem r_call (f : Nat) (es ks : CEs) (how : List (Sum Nat D)) : ev C (.call f es ks how) s = (evKs C es s).bind (cCall C f ks how) := ev_call C s f es ks how
theorem r_bi (b : Bi) (es : CEs) : ev C (.bi b es) s = (evRs C es s).bind (cBi b) := ev_bi C s b es
theorem r_isi (a : CE) (t : Ty) : ev C (.isi a t) s = (ev C a s).bind (cIsi t) := ev_isi C s a t
theorem r_dict (ks : List Ky) (es : CEs) : ev C (.dict ks es) s = (evDs C es s).bind (cDict ks) := rfl
theorem r_comp (tg : Tg) (vs : List Nat) (it : CI) (cond : CEs) (e : CE) : ev C (.comp tg vs it cond e) s = (evI C it s).bind (cComp C tg vs cond e) := ev_comp C s tg vs it cond e
theorem r_Ts (c : CE) (cs : CEs) : evTs C (.cons c cs) s = (ev C c s).tst.bind (cTs C cs) := evTs_cons C s c cs
theorem r_yes (e : CE) : evO C (.yes e) s = (ev C e s).bind cO := evO_yes C s e
theorem r_seq (e : CE) : evI C (.seq e) s = (ev C e s).bind cSeq := evI_seq C s e
theorem r_range (es : CEs) : evI C (.range es) s = (evDs C es s).bind cRange := evI_range C s es
theorem r_rev (a : CE) : ev C (.rev a) s = (ev C a s).bind cRev := ev_rev C s a
theorem r_mth (m : Mth) (a : CE) (es : CEs) : ev C (.mth m a es) s = (ev C a s).bind (cMth C m es) := ev_mth C s m a es
theorem r_zip (st : Bool) (a b : CE) : evI C (.zip st a b) s = (ev C a s).bind (cZip C st b) := bindq fun r s1 => bindq fun x s2 => bindq fun q s3 => bindq fun y s4 => by
  cases x <;> cases y <;> rfl
theorem putI_eq {i : Nat} {d kd : D} {s : Sg} : putI i d kd s = kPutI i d kd s s.env[i]? := by
  unfold putI kPutI
  rcases s.env[i]? with _ | x
  · rfl
  · cases x with
    | own xs =>
      cases kd with
      | int k =>
        show (match L2.ixN xs.length k with | some j => O.ok .next { s with env := s.env.set i (.own (xs.set j d)) } | none => .stuck) = kPutJ i d s xs (L2.ixN xs.length k)
        cases L2.ixN xs.length k <;> rfl
      | _ => rfl
    | _ => rfl
theorem r_puti (i : Nat) (k e : CE) : ex C (.puti i k e) s = (ev C e s).bind (cPuti C i k) := bindq fun r s1 => bindq fun d s2 => by
  show _ = kPuti1 C i k d s2 s2.env[i]?
  rcases s2.env[i]? with _ | x
  · rfl
  · cases x with
    | own xs =>
      refine bindq fun u s4 => ?_
      · show _ = kPuti2 i d s4 (s4.res u)
        cases s4.res u with
        | none => rfl
        | some kd => exact putI_eq
    | _ => rfl
theorem r_kill (vs : List Nat) (cs : CSs) : exs C (.cons (.kill vs) cs) s = exs C cs { s with env := killE s.env vs } := by
  rw [exs_cons, ex]
  rfl
theorem r_aug (i : Nat) (o : BOp) (e : CE) : ex C (.aug i o e) s = kAug C i o e s (s.res (.slot i)) := by
  rw [ex]
  cases s.res (.slot i) with
  | none => rfl
  | some x =>
      refine bindq fun r s1 => ?_
      show _ = cAug2 i o x s1 (s1.res r)
      cases s1.res r with
      | none => rfl
      | some y =>
        show (match augD o x y with | some d => (match setT (.nm i) d s1 with | some s2 => O.ok .next s2 | none => .stuck) | none => .stuck) = cAug3 i s1 (augD o x y)
        cases augD o x y with
        | none => rfl
        | some d =>
          show (match setT (.nm i) d s1 with | some s2 => O.ok .next s2 | none => .stuck) = (kSetT s1 (setT (.nm i) d s1)).bind cNext
          cases setT (.nm i) d s1 <;> rfl
theorem r_enum (k : Int) (e : CE) : evI C (.enum k e) s = (ev C e s).bind (cEnum k) := evI_enum C s k e
theorem r_Ds (e : CE) (es : CEs) : evDs C (.cons e es) s = (ev C e s).bind (cDs C es) := rfl
theorem r_Ks (e : CE) (es : CEs) : evKs C (.cons e es) s = (ev C e s).bind (cKs C es) := rfl
theorem r_Rs (e : CE) (es : CEs) : evRs C (.cons e es) s = (ev C e s).bind (cRs C es) := rfl
theorem r_Ps (e : CE) (es : CEs) : evPs C (.cons e es) s = (ev C e s).bind (cPs C es) := evPs_cons C s e es
theorem r_seqS (c : CS) (cs : CSs) : exs C (.cons c cs) s = (ex C c s).bind (cSeqS C cs) := exs_cons C s c cs
theorem r_asg (t : Tg) (e : CE) : ex C (.asg t e) s = (ev C e s).bind (cAsg t) := rfl
theorem r_par (ts : Tgs) (es : CEs) : ex C (.par ts es) s = (evPs C es s).bind (cPar ts) := rfl
theorem r_put (o k e : CE) : ex C (.put o k e) s = (ev C e s).bind (cPut C o k) := ex_put C s o k e
theorem r_expr (e : CE) : ex C (.expr e) s = (ev C e s).bind cNext := rfl
theorem r_ret (e : CE) : ex C (.ret e) s = (ev C e s).bind cRet := rfl
theorem r_ifs (c : CE) (a b : CSs) : ex C (.ifs c a b) s = (ev C c s).tst.bind (cIf C a b) := ex_ifs C s c a b
theorem r_for (t : Tg) (it : CI) (b : CSs) : ex C (.for t it b) s = (evI C it s).bind (cFor C t b) := rfl
theorem r_setRs (t : Tg) (ts : Tgs) (r : RV) (rs : List RV) : setRs (.cons t ts) (r :: rs) s = (setR t r s).bind (cSetRs ts rs) := by rw [setRs]; rfl
theorem r_setSlot (i j : Nat) : setR (.nm i) (.slot j) s = (s.escD (.slot j)).bind (cSetSlot i) := setR_slot s i j
theorem r_app (i : Nat) (e : CE) (xs : List D) : kApp0 C i e s (some (.own xs)) = (ev C e s).bind (cApp i) := rfl
theorem r_ext (i : Nat) (e : CE) (xs : List D) : kExt0 C i e s (some (.own xs)) = (ev C e s).bind (cExt i) := rfl
theorem r_kcomp (tg : Tg) (vs : List Nat) (cond : CEs) (e : CE) (xs : List D) (ln : Option Nat) : kComp C tg vs cond e (xs, ln) s true = (compL (turnF C tg vs cond e) xs [] { s with env := wipeE (lendE ln s.env) vs }).bind (cComp7 vs ln s.env) := rfl
/-! small facts -/
variable {s}
theorem q_var_d {i : Nat} {d : D} : kVar i s (some (.dat d)) = .ok (.dat d) s := rfl
theorem q_var_o {i : Nat} {xs : List D} : kVar i s (some (.own xs)) = .ok (.slot i) s := rfl
theorem q_var_l {i : Nat} {xs : List D} : kVar i s (some (.lent xs)) = .ok (.slot i) s := rfl
theorem q_var_n {i n : Nat} : kVar i s (some (.loc n)) = .ok (.loc n) s := rfl
theorem q_tst {d : D} : kTst s (some d) = .of (tru d) s := rfl
theorem q_neg {i : Int} : kNeg s (some (.int i)) = .ok (.dat (.int (-i))) s := rfl
theorem q_andT {C : Cn} {b : CE} {r : RV} : kAnd C b r s (some true) = ev C b s := rfl
theorem q_andF {C : Cn} {b : CE} {r : RV} : kAnd C b r s (some false) = .ok r.weak s := rfl
theorem q_orT {C : Cn} {b : CE} {r : RV} : kOr C b r s (some true) = .ok r.weak s := rfl
theorem q_orF {C : Cn} {b : CE} {r : RV} : kOr C b r s (some false) = ev C b s := rfl
theorem q_bin {o : BOp} {x y : D} : kBin o s (some x) (some y) = .of (binD o x y) s := rfl
theorem q_cmp {o : COp} {x y : D} : kCmp o s (some x) (some y) = .of ((cmpD o x y).map fun k => .dat (.bool k)) s := rfl
theorem q_of {α : Type} {a : α} : O.of (some a) s = .ok a s := rfl
def kLook (s : Sg) : Option (List (Ky × D)) → Option Ky → O RV
  | some kvs, some k => .of ((lookK kvs k).map .dat) s
  | _, _ => .stuck
theorem q_subL {n : Nat} {q : RV} : kSub s (.loc n) q = kLook s s.sto[n]? ((s.res q).bind keyD) := by
  unfold kSub kLook
  dsimp only
theorem q_look {kvs : List (Ky × D)} {k : Ky} : kLook s (some kvs) (some k) = .of ((lookK kvs k).map .dat) s := rfl
def kSub2 (s : Sg) : Option D → Option D → O RV
  | some x, some y => .of ((subD x y).map .dat) s
  | _, _ => .stuck
theorem q_subD {d : D} {q : RV} : kSub s (.dat d) q = kSub2 s (some d) (s.res q) := by
  show (match s.res (.dat d), s.res q with | some x, some y => O.of ((subD x y).map RV.dat) s | _, _ => .stuck) = _
  unfold kSub2
  rw [res_dat]
theorem q_subF {d : List D} {q : RV} : kSub s (.fresh d) q = kSub2 s (some (.list d)) (s.res q) := by
  show (match s.res (.fresh d), s.res q with | some x, some y => O.of ((subD x y).map RV.dat) s | _, _ => .stuck) = _
  unfold kSub2
  rw [res_fresh]
theorem q_subS {i : Nat} {q : RV} : kSub s (.slot i) q = kSub2 s (s.res (.slot i)) (s.res q) := by
  show (match s.res (.slot i), s.res q with | some x, some y => O.of ((subD x y).map RV.dat) s | _, _ => .stuck) = _
  unfold kSub2
  cases s.res (.slot i) <;> cases s.res q <;> rfl
theorem q_sub2 {x y : D} : kSub2 s (some x) (some y) = .of ((subD x y).map .dat) s := rfl
theorem q_sl {l h : Option Int} {x : D} : kSl l h s (some x) = .of (sliceD x l h) s := rfl
theorem q_call {C : Cn} {f : Nat} {as : List RV} : kCall C f s (some as) = .up (C.call f as s.sto) s := rfl
theorem q_up {r : RV} {st : Sto} : O.up (.ok r st) s = .ok r { s with sto := st } := rfl
theorem q_bi {b : Bi} {ds : List D} : kBi b s (some ds) = .of (biD b ds) s := rfl
theorem q_isi {t : Ty} {x : D} : kIsi t s (some x) = .ok (.dat (.bool (isiD x t))) s := rfl
theorem q_tup {ds : List D} (h : ds.length ≤ lim) : kTup ds s = .ok (.dat (.tuple ds)) s := if_pos h
theorem q_lst {ds : List D} (h : ds.length ≤ lim) : kLst ds s = .ok (.fresh ds) s := if_pos h
theorem q_iteT {C : Cn} {a b : CE} : kIte C a b s true = ev C a s := rfl
theorem q_iteF {C : Cn} {a b : CE} : kIte C a b s false = ev C b s := rfl
theorem q_tsT {C : Cn} {cs : CEs} : kTs C cs s true = evTs C cs s := rfl
theorem q_tsF {C : Cn} {cs : CEs} : kTs C cs s false = .ok false s := rfl
theorem q_seq {r : RV} {xs : List D} (h : xs.length ≤ lim) : kSeq r s (some xs) = .ok (xs, lends s r) s := if_pos h
theorem q_rng {xs : List D} (h : xs.length ≤ lim) : kRange s (some xs) = .ok (xs, none) s := if_pos h
theorem q_rev {x : D} : kRev s (some x) = .of (revD x) s := rfl
theorem q_mth {m : Mth} {x : D} {ds : List D} : kMth m s (some x) (some ds) = .of ((mthD m x ds).map .dat) s := rfl
theorem q_zipL {st : Bool} {xs ys : List D} (h : xs.length ≤ lim) (h2 : st = true → False) : kZip st s (.list xs) (.list ys) = .ok (zipD xs ys, none) s := if_pos ⟨h, h2⟩
theorem q_zipT {st : Bool} {xs ys : List D} (h : xs.length ≤ lim) (h2 : st = true → xs.length = ys.length) : kZip st s (.tuple xs) (.tuple ys) = .ok (zipD xs ys, none) s := if_pos ⟨h, h2⟩
theorem q_puti1 {C : Cn} {i : Nat} {k : CE} {d : D} {xs : List D} : kPuti1 C i k d s (some (.own xs)) = (ev C k s).bind (cPuti2 i d) := rfl
theorem q_puti2 {i : Nat} {d kd : D} : kPuti2 i d s (some kd) = kPutI i d kd s s.env[i]? := rfl
theorem q_puti3 {i : Nat} {d : D} {k : Int} {xs : List D} : kPutI i d (.int k) s (some (.own xs)) = kPutJ i d s xs (L2.ixN xs.length k) := rfl
theorem q_puti4 {i j : Nat} {d : D} {xs : List D} : kPutJ i d s xs (some j) = .ok .next { s with env := s.env.set i (.own (xs.set j d)) } := rfl
theorem q_aug {C : Cn} {i : Nat} {o : BOp} {e : CE} {x : D} : kAug C i o e s (some x) = (ev C e s).bind (cAug i o x) := rfl
theorem q_aug2 {i : Nat} {o : BOp} {x y : D} : cAug2 i o x s (some y) = cAug3 i s (augD o x y) := rfl
theorem q_aug3 {i : Nat} {d : D} : cAug3 i s (some d) = (kSetT s (setT (.nm i) d s)).bind cNext := rfl
theorem q_lendD {d : D} : lends s (.dat d) = none := rfl
theorem q_lendF {d : List D} : lends s (.fresh d) = none := rfl
def kLends (i : Nat) : Option EV → Option Nat
  | some (.own _) => some i
  | _ => none
theorem q_lendS {i : Nat} : lends s (.slot i) = kLends i s.env[i]? := by
  unfold lends kLends
  try dsimp only
  all_goals (rcases s.env[i]? with _ | x <;> first | rfl | (cases x <;> rfl))
theorem q_enumT {k : Int} {r : RV} {xs : List D} (h : okI k = true) (h2 : xs.length ≤ lim) : kEnum k r s (some (.tuple xs)) = .ok (enumD k xs, none) s := if_pos ⟨h, h2⟩
theorem q_enumL {k : Int} {r : RV} {xs : List D} (h : okI k = true) (h2 : xs.length ≤ lim) : kEnum k r s (some (.list xs)) = .ok (enumD k xs, lends s r) s := if_pos ⟨h, h2⟩
theorem q_enumS {k : Int} {r : RV} {z : Str} (h : okI k = true) (h2 : z.length ≤ lim) : kEnum k r s (some (.str z)) = .ok (enumD k (z.cps.toList.map fun c => .str ⟨#[c]⟩), none) s := if_pos ⟨h, h2⟩
theorem q_o {i : Int} : kO s (some (.int i)) = .ok (some i) s := rfl
theorem q_app {i : Nat} {d : D} {xs : List D} (h : xs.length < lim) : kApp i d s (some (.own xs)) = .ok (.dat .none) { s with env := s.env.set i (.own (xs ++ [d])) } := if_pos h
theorem q_ext {i : Nat} {xs ys : List D} (h : xs.length + ys.length ≤ lim) : kExt i s (some (.list ys)) (some (.own xs)) = .ok (.dat .none) { s with env := s.env.set i (.own (xs ++ ys)) } := if_pos h
theorem q_esc_o {i : Nat} {xs : List D} : kEsc s i (some (.own xs)) = .ok (.dat (.list xs)) { s with env := s.env.set i (.dat (.list xs)) } := rfl
theorem q_escD_o {i : Nat} {xs : List D} : kEscD s i (some (.own xs)) = .ok (.list xs) { s with env := s.env.set i (.dat (.list xs)) } := rfl
theorem q_res_o {xs : List D} : kRes (some (.own xs)) = some (.list xs) := rfl
theorem q_res_l {xs : List D} : kRes (some (.lent xs)) = some (.list xs) := rfl
theorem q_res_d {d : D} : kRes (some (.dat d)) = some d := rfl
theorem q_nx {C : Cn} {cs : CSs} : kSeqS C cs s .next = exs C cs s := rfl
theorem q_rt {C : Cn} {cs : CSs} {r : RV} : kSeqS C cs s (.ret r) = .ok (.ret r) s := rfl
theorem q_bk {C : Cn} {cs : CSs} : kSeqS C cs s .brk = .ok .brk s := rfl
theorem q_ct {C : Cn} {cs : CSs} : kSeqS C cs s .cont = .ok .cont s := rfl
theorem q_ifT {C : Cn} {a b : CSs} : kIf C a b s true = exs C a s := rfl
theorem q_ifF {C : Cn} {a b : CSs} : kIf C a b s false = exs C b s := rfl
theorem q_put {q : RV} {d kd : D} : kPut q d s (some kd) = putS s q kd d := rfl
def kPutS (n : Nat) (d : D) (s : Sg) : Option (List (Ky × D)) → Option Ky → O Fl
  | some kvs, some ky => if kvs.length < lim then .ok .next { s with sto := s.sto.set n (putKy kvs ky d) } else .stuck
  | _, _ => .stuck
theorem q_putS {n : Nat} {k d : D} : putS s (.loc n) k d = kPutS n d s s.sto[n]? (keyD k) := by
  unfold putS kPutS
  try dsimp only
  all_goals (cases s.sto[n]? <;> cases keyD k <;> rfl)
theorem q_putOk {n : Nat} {d : D} {kvs : List (Ky × D)} {ky : Ky} (h : kvs.length < lim) : kPutS n d s (some kvs) (some ky) = .ok .next { s with sto := s.sto.set n (putKy kvs ky d) } := if_pos h
theorem q_P_f {xs : List D} : kP s (.fresh xs) = .ok (.fresh xs) s := rfl
theorem q_P_d {d : D} : kP s (.dat d) = .ok (.dat d) s := rfl
theorem q_P_l {n : Nat} : kP s (.loc n) = .ok (.loc n) s := rfl
theorem q_P_s {i : Nat} : kP s (.slot i) = s.esc (.slot i) := rfl
theorem q_set {i : Nat} {e : EV} : kSet s i e true = .ok () { s with env := s.env.set i e } := rfl
theorem q_setT {s1 : Sg} : kSetT s (some s1) = .ok () s1 := rfl
theorem q_setS {i : Nat} {d : D} : kSetS s i d true = some { s with env := s.env.set i (.dat d) } := rfl
theorem q_setTs {ts : Tgs} {ds : List D} : kSetTs ts ds (some s) = setTs ts ds s := rfl
end
theorem q_fr_d {d : D} : kFree (some (.dat d)) = true := rfl
theorem q_fr_o {d : List D} : kFree (some (.own d)) = true := rfl
theorem q_fr_n : kFree (some .non) = true := rfl
theorem q_fr_l {n : Nat} : kFree (some (.loc n)) = true := rfl
theorem q_lo_d {d : D} : kLoose (some (.dat d)) = true := rfl
theorem q_lo_n : kLoose (some .non) = true := rfl
theorem q_lo_l {n : Nat} : kLoose (some (.loc n)) = true := rfl
theorem q_tru_b {b : Bool} : tru (.bool b) = some b := rfl
theorem q_tru_i {i : Int} : tru (.int i) = some (i != 0) := rfl
theorem q_tru_t {xs : List D} : tru (.tuple xs) = some (!xs.isEmpty) := rfl
theorem q_tru_l {xs : List D} : tru (.list xs) = some (!xs.isEmpty) := rfl
theorem q_tru_n : tru .none = some false := rfl
theorem q_add {i j : Int} : binD .add (.int i) (.int j) = some (.dat (.int (i + j))) := rfl
theorem q_sub {i j : Int} : binD .sub (.int i) (.int j) = some (.dat (.int (i - j))) := rfl
theorem q_mul {i j : Int} (h : mulOk i j = true) : binD .mul (.int i) (.int j) = some (.dat (.int (i * j))) := if_pos h
theorem q_fdiv {i j : Int} (h : 0 < j ∧ j.natAbs.log2 < 9000) : binD .fdiv (.int i) (.int j) = some (.dat (.int (i / j))) := if_pos h
theorem q_mod {i j : Int} (h : 0 < j) : binD .mod (.int i) (.int j) = some (.dat (.int (i % j))) := if_pos h
theorem q_pow {i j : Int} (h : 0 ≤ j ∧ j ≤ 1000000 ∧ i.natAbs < 2 ^ 64) : binD .pow (.int i) (.int j) = some (.dat (.int (i ^ j.toNat))) := if_pos h
theorem q_addL {xs ys : List D} (h : xs.length + ys.length ≤ lim) : binD .add (.list xs) (.list ys) = some (.fresh (xs ++ ys)) := if_pos h
theorem q_addT {xs ys : List D} (h : xs.length + ys.length ≤ lim) : binD .add (.tuple xs) (.tuple ys) = some (.dat (.tuple (xs ++ ys))) := if_pos h
theorem q_lt {i j : Int} : cmpD .lt (.int i) (.int j) = some (decide (i < j)) := rfl
theorem q_le {i j : Int} : cmpD .le (.int i) (.int j) = some (decide (i ≤ j)) := rfl
theorem q_gt {i j : Int} : cmpD .gt (.int i) (.int j) = some (decide (j < i)) := rfl
theorem q_ge {i j : Int} : cmpD .ge (.int i) (.int j) = some (decide (j ≤ i)) := rfl
theorem q_eqS {x y : Str} : cmpD .eq (.str x) (.str y) = some (decide (x = y)) := rfl
theorem q_neS {x y : Str} : cmpD .ne (.str x) (.str y) = some (!decide (x = y)) := rfl
theorem q_eqI {i j : Int} : cmpD .eq (.int i) (.int j) = some (decide (i = j)) := by
  have : cmpD .eq (.int i) (.int j) = some (i == j) := by
    show (if shp (.int i) && shp (.int j) then some (PyData.eqv (.int i) (.int j)) else none) = _
    rw [if_pos (by rfl)]
    simp [PyData.eqv]
  rw [this]; rfl
theorem q_isN {x : D} : cmpD .is x .none = some (isNoneD x) := by cases x <;> rfl
theorem q_isnN {x : D} : cmpD .isn x .none = some (!isNoneD x) := by cases x <;> rfl
theorem q_isB {x y : Bool} : cmpD .is (.bool x) (.bool y) = some (x == y) := rfl
theorem q_tsub {xs : List D} {i : Int} : subD (.tuple xs) (.int i) = L2.atI xs i := rfl
theorem q_lsub {xs : List D} {i : Int} : subD (.list xs) (.int i) = L2.atI xs i := rfl
theorem q_lenL {xs : List D} : biD .len [.list xs] = some (.dat (.int xs.length)) := rfl
theorem q_lenT {xs : List D} : biD .len [.tuple xs] = some (.dat (.int xs.length)) := rfl
theorem q_tupL {xs : List D} : biD .tuple [.list xs] = some (.dat (.tuple xs)) := rfl
theorem q_tupT {xs : List D} : biD .tuple [.tuple xs] = some (.dat (.tuple xs)) := rfl
theorem q_lstL {xs : List D} : biD .list [.list xs] = some (.fresh xs) := rfl
theorem q_lstT {xs : List D} : biD .list [.tuple xs] = some (.fresh xs) := rfl
theorem q_repr {d : D} (h : repOk d = true) : biD .repr [d] = some (.dat (.str d.shown)) := by
  have : biD .repr [d] = if repOk d then some (.dat (.str d.shown)) else none := by cases d <;> rfl
  rw [this, if_pos h]
theorem q_max {i j : Int} : biD .max [.int i, .int j] = some (.dat (.int (if j > i then j else i))) := rfl
theorem q_min {i j : Int} : biD .min [.int i, .int j] = some (.dat (.int (if j < i then j else i))) := rfl
theorem q_kI {i : Int} : keyD (.int i) = some (.inl i) := rfl
theorem q_kS {x : Str} : keyD (.str x) = some (.inr x) := rfl
theorem q_sqL {xs : List D} : seqD (.list xs) = some xs := rfl
theorem q_sqT {xs : List D} : seqD (.tuple xs) = some xs := rfl
theorem q_evD {d : D} : evOf (.dat d) = some (.dat d) := rfl
theorem q_evL {n : Nat} : evOf (.loc n) = some (.loc n) := rfl
theorem q_argN {rs : List RV} : argsOf rs [] = some [] := rfl
def kArg (a : Option RV) (r : Option (List RV)) : Option (List RV) := a.bind fun x => r.map (x :: ·)
theorem q_argC {rs : List RV} {i : Nat} {how : List (Sum Nat D)} : argsOf rs (.inl i :: how) = kArg rs[i]? (argsOf rs how) := by
  rw [argsOf]
  cases rs[i]? <;> cases argsOf rs how <;> rfl
theorem q_arg {a : RV} {r : List RV} : kArg (some a) (some r) = some (a :: r) := rfl
theorem q_argD {rs : List RV} {d : D} {how : List (Sum Nat D)} : argsOf rs (.inr d :: how) = kArg (some (.dat d)) (argsOf rs how) := by
  rw [argsOf]
  cases argsOf rs how <;> rfl
theorem q_atN {xs : List D} {i : Nat} (h : i < xs.length) : L2.atI xs (i : Int) = some (xs[i]'h) := by
  unfold L2.atI L2.ixN
  rw [if_pos (by omega), if_pos (by omega)]
  show xs[(i : Int).toNat]? = _
  rw [Int.toNat_natCast, List.getElem?_eq_getElem h]
theorem q_at0 {x : D} {xs : List D} : L2.atI (x :: xs) 0 = some x := by
  have := q_atN (xs := x :: xs) (i := 0) (by simp)
  exact this
theorem q_at1 {x y : D} {xs : List D} : L2.atI (x :: y :: xs) 1 = some y := q_atN (xs := x :: y :: xs) (i := 1) (by simp)
theorem q_at2 {x y z : D} {xs : List D} : L2.atI (x :: y :: z :: xs) 2 = some z := q_atN (xs := x :: y :: z :: xs) (i := 2) (by simp)
theorem q_at3 {x y z w : D} {xs : List D} : L2.atI (x :: y :: z :: w :: xs) 3 = some w := q_atN (xs := x :: y :: z :: w :: xs) (i := 3) (by simp)
theorem q_run {C : Cn} {d : Df} {as : List RV} {st : Sto} {evs : List EV} (h : as.length = d.np ∧ d.np ≤ d.ns) : kRun C d as st (some evs) = fin st.length (exs C d.body ⟨evs ++ List.replicate (d.ns - d.np) .non, st⟩) := if_pos h
theorem q_finD {n : Nat} {d : D} {s : Sg} : fin n (.ok (.ret (.dat d)) s) = .ok (.dat d) (s.sto.take n) := rfl
theorem q_finF {n : Nat} {d : List D} {s : Sg} : fin n (.ok (.ret (.fresh d)) s) = .ok (.fresh d) (s.sto.take n) := rfl
theorem q_finN {n : Nat} {s : Sg} : fin n (.ok .next s) = .ok (.dat .none) (s.sto.take n) := rfl
def kFin (n : Nat) (st : Sto) : Option EV → OC
  | some (.own xs) => .ok (.fresh xs) (st.take n)
  | some (.dat d) => .ok (.dat d) (st.take n)
  | _ => .stuck
theorem q_finS {n i : Nat} {s : Sg} : fin n (.ok (.ret (.slot i)) s) = kFin n s.sto s.env[i]? := by
  show (match s.env[i]? with | some (.own xs) => OC.ok (.fresh xs) (s.sto.take n) | some (.dat d) => .ok (.dat d) (s.sto.take n) | _ => .stuck) = _
  unfold kFin
  cases s.env[i]? with
  | none => rfl
  | some x => cases x <;> rfl
theorem q_finO {n : Nat} {st : Sto} {xs : List D} : kFin n st (some (.own xs)) = .ok (.fresh xs) (st.take n) := rfl
theorem q_finL {n m : Nat} {s : Sg} (h : m < n) : fin n (.ok (.ret (.loc m)) s) = .ok (.loc m) (s.sto.take n) := if_pos h
end Pur
end
section
set_option Elab.async false
set_option linter.all false
set_option maxRecDepth 20000
namespace Pur
open PySem L2
local macro_rules | `(tactic| trivial) => `(tactic| simp only [cTst, cNeg, cNt, cAnd, cOr, cBin2, cBin, cCmp2, cCmp, cIte, cTup, cLst, cSub2, cSub, cSl3, cSl2, cSl, cCall2, cCall, cBi, cIsi, cDict, cComp, cTs, cO, cSeq, cRange, cEnum, cDs3, cDs2, cDs, cKs3, cKs2, cKs, cRs, cPs2, cPs, cNext, cAsg, cPar, cSetRs, cPut4, cPut3, cPut2, cPut, cRet, cIf, cSeqS, cFor, cSetSlot, cApp2, cApp, cExt, cComp7, r_tst, r_neg, r_nt, r_and, r_or, r_bin, r_cmp, r_ite, r_tup, r_lst, r_sub, r_slice, r_call, r_bi, r_isi, r_dict, r_comp, r_Ts, r_yes, r_seq, r_range, r_enum, r_Ds, r_Ks, r_Rs, r_Ps, r_seqS, r_asg, r_par, r_put, r_expr, r_ret, r_ifs, r_for, r_setRs, r_setSlot, r_app, r_ext, r_kcomp, q_var_d, q_var_o, q_var_l, q_var_n, q_tst, q_neg, q_andT, q_andF, q_orT, q_orF, q_bin, q_cmp, q_of, q_subL, q_look, q_subD, q_subF, q_subS, q_sub2, q_sl, q_call, q_up, q_bi, q_isi, q_tup, q_lst, q_iteT, q_iteF, q_tsT, q_tsF, q_seq, q_lendD, q_lendF, q_lendS, q_enumT, q_enumL, q_o, q_app, q_ext, q_esc_o, q_escD_o, q_res_o, q_res_l, q_res_d, q_nx, q_rt, q_bk, q_ct, q_ifT, q_ifF, q_put, q_putS, q_putOk, q_P_f, q_P_d, q_P_l, q_P_s, q_set, q_setT, q_setS, q_setTs, q_fr_d, q_fr_o, q_fr_n, q_fr_l, q_lo_d, q_lo_n, q_lo_l, q_tru_b, q_tru_i, q_tru_t, q_tru_l, q_tru_n, q_add, q_sub, q_mul, q_fdiv, q_mod, q_pow, q_addL, q_addT, q_lt, q_le, q_gt, q_ge, q_eqS, q_neS, q_eqI, q_isN, q_isnN, q_isB, q_tsub, q_lsub, q_lenL, q_lenT, q_tupL, q_tupT, q_lstL, q_lstT, q_repr, q_max, q_min, q_kI, q_kS, q_sqL, q_sqT, q_evD, q_evL, q_argN, q_argC, q_arg, q_argD, q_atN, q_at0, q_at1, q_at2, q_at3, q_run, q_finD, q_finF, q_finN, q_finS, q_finO, q_finL, evTs_nil, evO_no, evDs_nil, evKs_nil, evRs_nil, evPs_nil, exs_nil, ex_retN, ex_pass, ex_brk, ex_cont, ev_var, ev_lit, ev_glob, ev_app, ev_ext, esc_dat, esc_fresh, esc_loc, esc_slot, escD_dat, escD_fresh, escD_slot, res_dat, res_fresh, res_slot, setR_dat, setR_fresh, setR_loc, setR_tup, setT_nm, setT_tup, setTs_nil, setTs_cons, setRs_nil2, freeAt_eq, looseAt_eq, O.bind_ok, List.mapM_cons, List.mapM_nil, Option.bind_eq_bind, Option.bind_some, Option.pure_def, Option.map_some, List.getElem?_cons_succ, List.getElem?_cons_zero, List.length_cons, List.length_nil, Nat.reduceAdd, Nat.reduceSub, Nat.le_refl, and_self, List.replicate_succ, List.replicate_zero, List.append_nil, List.cons_append, List.nil_append, List.set_cons_succ, List.set_cons_zero, List.all_cons, List.all_nil, Bool.and_true, Bool.true_and, Bool.not_true, Bool.not_false, Nat.sub_self, List.append_assoc, RV.weak])
/-! ### the feed of a law -/
def feedOf (cells : List Int) (a l c : Int) : List (Ky × D) := [(.inr "cells", .list (cells.map PyData.int)), (.inr "at", .int a), (.inr "left", .int l), (.inr "count", .int c)]
section
variable {cells : List Int} {a l c x : Int}
theorem feed_cells : lookK (feedOf cells a l c) (.inr "cells") = some (.list (cells.map PyData.int)) := rfl
theorem feed_at : lookK (feedOf cells a l c) (.inr "at") = some (.int a) := rfl
theorem feed_left : lookK (feedOf cells a l c) (.inr "left") = some (.int l) := rfl
theorem feed_count : lookK (feedOf cells a l c) (.inr "count") = some (.int c) := rfl
theorem put_at : putKy (feedOf cells a l c) (.inr "at") (.int x) = feedOf cells x l c := rfl
theorem put_left : putKy (feedOf cells a l c) (.inr "left") (.int x) = feedOf cells a x c := rfl
theorem put_count : putKy (feedOf cells a l c) (.inr "count") (.int x) = feedOf cells a l x := rfl
theorem feed_lt : (feedOf cells a l c).length < lim := by show 4 < lim; decide
theorem shp_ints : ∀ xs : List Int, PyData.canLayAll0 (xs.map PyData.int) = true
  | [] => rfl
  | x :: xs => by simp [PyData.canLayAll0, PyData.canLay0, shp_ints xs]
theorem dep_ints : ∀ xs : List Int, PyData.depthAll (xs.map PyData.int) = 0
  | [] => rfl
  | x :: xs => by simp [PyData.depthAll, PyData.depth, dep_ints xs]
theorem shp_intsL {xs : List Int} : shp (.list (xs.map PyData.int)) = true := by
  show (PyData.canLayAll0 (xs.map PyData.int) && decide (PyData.depthAll (xs.map PyData.int) + 1 ≤ 64)) = true
  rw [shp_ints, dep_ints]; rfl
theorem ne_nil {xs : List Int} : cmpD .ne (.list (xs.map PyData.int)) (.list []) = some (!xs.isEmpty) := by
  show (if shp (.list (xs.map PyData.int)) && shp (.list []) then some (!PyData.eqv (.list (xs.map PyData.int)) (.list [])) else none) = _
  rw [shp_intsL, if_pos (by rfl)]
  cases xs <;> rfl
end
theorem mul_ok {i j : Int} (h1 : i.natAbs < 2 ^ 64) (h2 : j.natAbs < 2 ^ 64) : mulOk i j = true := by
  unfold mulOk
  have l1 : i.natAbs.log2 ≤ 64 := by
    by_cases h : i.natAbs = 0
    · rw [h]; decide
    · exact Nat.le_of_lt ((Nat.log2_lt h).mpr h1)
  have l2 : j.natAbs.log2 ≤ 64 := by
    by_cases h : j.natAbs = 0
    · rw [h]; decide
    · exact Nat.le_of_lt ((Nat.log2_lt h).mpr h2)
  exact decide_eq_true (by omega)
theorem emod_nat {i j : Int} (h : 0 < j) (hj : j < 2 ^ 40) : (i % j).natAbs < 2 ^ 64 := by
  have h1 := Int.emod_nonneg i (Int.ne_of_gt h)
  have h2 := Int.emod_lt_of_pos i h
  omega
theorem log2_small {j : Int} (h : j.natAbs < 2 ^ 64) : j.natAbs.log2 < 9000 := by
  by_cases h0 : j.natAbs = 0
  · rw [h0]; decide
  · have := (Nat.log2_lt h0).mpr h; omega
/-- the numbers of a law's draw -/
structure Dr where
  d : Int
  m0 : Int
  b : Int
  e : Int
  m1 : Int
  f : Int
  g : Int
  m2 : Int
  h : Int
  m3 : Int
def Dr.ok (k : Dr) : Bool := decide (0 < k.m0 ∧ k.m0 < 2 ^ 40 ∧ 0 < k.m1 ∧ k.m1 < 2 ^ 40 ∧ 0 < k.m2 ∧ k.m2 < 2 ^ 40 ∧ 0 < k.m3 ∧ k.m3 < 2 ^ 40 ∧ k.b.natAbs < 2 ^ 64 ∧ k.f.natAbs < 2 ^ 64 ∧ k.h.natAbs < 2 ^ 64)
def drawT (k : Dr) : CSs := (.cons (.ifs (.and (.cmp .ge (.var 4) (.bin .pow (.lit (.int 10)) (.lit (.int 18)))) (.cmp .lt (.var 3) (.bi .len (.cons (.sub (.var 0) (.lit (.str "cells"))) .nil)))) (.cons (.put (.var 0) (.lit (.str "left")) (.bin .fdiv (.var 4) (.var 1))) (
    .cons (.ret (.bin .mod (.var 4) (.var 1))) .nil)) .nil) (
  .cons (.asg (.nm 5) (.bin .mod (.bin .add (.bin .add (.bin .mod (.var 4) (.lit (.int k.m0))) (.bin .mul (.lit (.int k.b)) (.sub (.var 0) (.lit (.str "count"))))) (.lit (.int k.e))) (.lit (.int k.m1)))) (
  .cons (.asg (.nm 5) (.bin .mod (.bin .add (.bin .add (.bin .mul (.var 5) (.var 5)) (.bin .mul (.lit (.int k.f)) (.sub (.var 0) (.lit (.str "count"))))) (.lit (.int k.g))) (.lit (.int k.m2)))) (
  .cons (.ret (.bin .mod (.bin .fdiv (.bin .mod (.bin .add (.bin .mul (.var 5) (.var 5)) (.bin .mul (.lit (.int k.h)) (.var 5))) (.lit (.int k.m3))) (.lit (.int 16))) (.var 1))) .nil))))
def drawB (k : Dr) : CSs := (.cons (.put (.var 0) (.lit (.str "count")) (.bin .add (.sub (.var 0) (.lit (.str "count"))) (.lit (.int 1)))) (
  .cons (.ifs (.cmp .gt (.sub (.var 0) (.lit (.str "left"))) (.lit (.int 0))) (.cons (.asg (.nm 2) (.bin .mod (.sub (.var 0) (.lit (.str "left"))) (.var 1))) (
    .cons (.put (.var 0) (.lit (.str "left")) (.bin .fdiv (.sub (.var 0) (.lit (.str "left"))) (.var 1))) (
    .cons (.ret (.var 2)) .nil))) .nil) (
  .cons (.asg (.nm 3) (.sub (.var 0) (.lit (.str "at")))) (
  .cons (.put (.var 0) (.lit (.str "at")) (.bin .add (.var 3) (.lit (.int 1)))) (
  .cons (.asg (.nm 4) (.ite (.cmp .ne (.sub (.var 0) (.lit (.str "cells"))) (.lst .nil)) (.sub (.sub (.var 0) (.lit (.str "cells"))) (.bin .mod (.var 3) (.bi .len (.cons (.sub (.var 0) (.lit (.str "cells"))) .nil)))) (.lit (.int k.d)))) (drawT k))))))
theorem nil_lim : ([] : List PyData).length ≤ lim := Nat.zero_le _
theorem mod_many {i many : Int} (h : 0 < many) : 0 ≤ i % many ∧ i % many < many := ⟨Int.emod_nonneg i (Int.ne_of_gt h), Int.emod_lt_of_pos i h⟩
theorem drawT_ok {C : Cn} {k : Dr} (hk : k.ok = true) {cells : List Int} {a0 a l c many v : Int} (hm : 0 < many) (hm2 : many.natAbs.log2 < 9000) (hc : c.natAbs < 2 ^ 62) :
    ∃ r l' s', exs C (drawT k) ⟨[.loc 0, .dat (.int many), .non, .dat (.int a0), .dat (.int v), .non], [feedOf cells a l c]⟩ = .ok (.ret (.dat (.int r))) s' ∧ s'.sto = [feedOf cells a l' c] ∧ 0 ≤ r ∧ r < many := by
  unfold Dr.ok at hk
  have hk := of_decide_eq_true hk
  obtain ⟨k1, k2, k3, k4, k5, k6, k7, k8, k9, k10, k11⟩ := hk
  have hmn : 0 < many ∧ many.natAbs.log2 < 9000 := ⟨hm, hm2⟩
  have p16 : (0 : Int) < 16 ∧ (16 : Int).natAbs.log2 < 9000 := by decide
  have p18 : (0 : Int) ≤ 18 ∧ (18 : Int) ≤ 1000000 ∧ (10 : Int).natAbs < 2 ^ 64 := by decide
  have c1 : c.natAbs < 2 ^ 64 := by omega
  have w1 := mul_ok k9 c1
  have w2 := mul_ok k10 c1
  unfold drawT
  simp only [cTst, cNeg, cNt, cAnd, cOr, cBin2, cBin, cCmp2, cCmp, cIte, cTup, cLst, cSub2, cSub, cSl3, cSl2, cSl, cCall2, cCall, cBi, cIsi, cDict, cComp, cTs, cO, cSeq, cRange, cEnum, cDs3, cDs2, cDs, cKs3, cKs2, cKs, cRs, cPs2, cPs, cNext, cAsg, cPar, cSetRs, cPut4, cPut3, cPut2, cPut, cRet, cIf, cSeqS, cFor, cSetSlot, cApp2, cApp, cExt, cComp7, r_tst, r_neg, r_nt, r_and, r_or, r_bin, r_cmp, r_ite, r_tup, r_lst, r_sub, r_slice, r_call, r_bi, r_isi, r_dict, r_comp, r_Ts, r_yes, r_seq, r_range, r_enum, r_Ds, r_Ks, r_Rs, r_Ps, r_seqS, r_asg, r_par, r_put, r_expr, r_ret, r_ifs, r_for, r_setRs, r_setSlot, r_app, r_ext, r_kcomp, q_var_d, q_var_o, q_var_l, q_var_n, q_tst, q_neg, q_andT, q_andF, q_orT, q_orF, q_bin, q_cmp, q_of, q_subL, q_look, q_subD, q_subF, q_subS, q_sub2, q_sl, q_call, q_up, q_bi, q_isi, q_tup, q_lst, q_iteT, q_iteF, q_tsT, q_tsF, q_seq, q_lendD, q_lendF, q_lendS, q_enumT, q_enumL, q_o, q_app, q_ext, q_esc_o, q_escD_o, q_res_o, q_res_l, q_res_d, q_nx, q_rt, q_bk, q_ct, q_ifT, q_ifF, q_put, q_putS, q_putOk, q_P_f, q_P_d, q_P_l, q_P_s, q_set, q_setT, q_setS, q_setTs, q_fr_d, q_fr_o, q_fr_n, q_fr_l, q_lo_d, q_lo_n, q_lo_l, q_tru_b, q_tru_i, q_tru_t, q_tru_l, q_tru_n, q_add, q_sub, q_mul, q_fdiv, q_mod, q_pow, q_addL, q_addT, q_lt, q_le, q_gt, q_ge, q_eqS, q_neS, q_eqI, q_isN, q_isnN, q_isB, q_tsub, q_lsub, q_lenL, q_lenT, q_tupL, q_tupT, q_lstL, q_lstT, q_repr, q_max, q_min, q_kI, q_kS, q_sqL, q_sqT, q_evD, q_evL, q_argN, q_argC, q_arg, q_argD, q_atN, q_at0, q_at1, q_at2, q_at3, q_run, q_finD, q_finF, q_finN, q_finS, q_finO, q_finL, evTs_nil, evO_no, evDs_nil, evKs_nil, evRs_nil, evPs_nil, exs_nil, ex_retN, ex_pass, ex_brk, ex_cont, ev_var, ev_lit, ev_glob, ev_app, ev_ext, esc_dat, esc_fresh, esc_loc, esc_slot, escD_dat, escD_fresh, escD_slot, res_dat, res_fresh, res_slot, setR_dat, setR_fresh, setR_loc, setR_tup, setT_nm, setT_tup, setTs_nil, setTs_cons, setRs_nil2, freeAt_eq, looseAt_eq, O.bind_ok, List.mapM_cons, List.mapM_nil, Option.bind_eq_bind, Option.bind_some, Option.pure_def, Option.map_some, List.getElem?_cons_succ, List.getElem?_cons_zero, List.length_cons, List.length_nil, Nat.reduceAdd, Nat.reduceSub, Nat.le_refl, and_self, List.replicate_succ, List.replicate_zero, List.append_nil, List.cons_append, List.nil_append, List.set_cons_succ, List.set_cons_zero, List.all_cons, List.all_nil, Bool.and_true, Bool.true_and, Bool.not_true, Bool.not_false, Nat.sub_self, List.append_assoc, RV.weak, feed_cells, feed_at, feed_left, feed_count, put_at, put_left, put_count, feed_lt, q_pow p18]
  -- the rest, whichever way it goes
  have tail : ∀ env0 : List EV, env0 = [.loc 0, .dat (.int many), .non, .dat (.int a0), .dat (.int v), .non] → ∃ r l' s', exs C (.cons (.asg (.nm 5) (.bin .mod (.bin .add (.bin .add (.bin .mod (.var 4) (.lit (.int k.m0))) (.bin .mul (.lit (.int k.b)) (.sub (.var 0) (.lit (.str "count"))))) (.lit (.int k.e))) (.lit (.int k.m1)))) (
      .cons (.asg (.nm 5) (.bin .mod (.bin .add (.bin .add (.bin .mul (.var 5) (.var 5)) (.bin .mul (.lit (.int k.f)) (.sub (.var 0) (.lit (.str "count"))))) (.lit (.int k.g))) (.lit (.int k.m2)))) (
      .cons (.ret (.bin .mod (.bin .fdiv (.bin .mod (.bin .add (.bin .mul (.var 5) (.var 5)) (.bin .mul (.lit (.int k.h)) (.var 5))) (.lit (.int k.m3))) (.lit (.int 16))) (.var 1))) .nil))) ⟨env0, [feedOf cells a l c]⟩ = .ok (.ret (.dat (.int r))) s' ∧ s'.sto = [feedOf cells a l' c] ∧ 0 ≤ r ∧ r < many := by
    rintro env0 rfl
    simp only [cTst, cNeg, cNt, cAnd, cOr, cBin2, cBin, cCmp2, cCmp, cIte, cTup, cLst, cSub2, cSub, cSl3, cSl2, cSl, cCall2, cCall, cBi, cIsi, cDict, cComp, cTs, cO, cSeq, cRange, cEnum, cDs3, cDs2, cDs, cKs3, cKs2, cKs, cRs, cPs2, cPs, cNext, cAsg, cPar, cSetRs, cPut4, cPut3, cPut2, cPut, cRet, cIf, cSeqS, cFor, cSetSlot, cApp2, cApp, cExt, cComp7, r_tst, r_neg, r_nt, r_and, r_or, r_bin, r_cmp, r_ite, r_tup, r_lst, r_sub, r_slice, r_call, r_bi, r_isi, r_dict, r_comp, r_Ts, r_yes, r_seq, r_range, r_enum, r_Ds, r_Ks, r_Rs, r_Ps, r_seqS, r_asg, r_par, r_put, r_expr, r_ret, r_ifs, r_for, r_setRs, r_setSlot, r_app, r_ext, r_kcomp, q_var_d, q_var_o, q_var_l, q_var_n, q_tst, q_neg, q_andT, q_andF, q_orT, q_orF, q_bin, q_cmp, q_of, q_subL, q_look, q_subD, q_subF, q_subS, q_sub2, q_sl, q_call, q_up, q_bi, q_isi, q_tup, q_lst, q_iteT, q_iteF, q_tsT, q_tsF, q_seq, q_lendD, q_lendF, q_lendS, q_enumT, q_enumL, q_o, q_app, q_ext, q_esc_o, q_escD_o, q_res_o, q_res_l, q_res_d, q_nx, q_rt, q_bk, q_ct, q_ifT, q_ifF, q_put, q_putS, q_putOk, q_P_f, q_P_d, q_P_l, q_P_s, q_set, q_setT, q_setS, q_setTs, q_fr_d, q_fr_o, q_fr_n, q_fr_l, q_lo_d, q_lo_n, q_lo_l, q_tru_b, q_tru_i, q_tru_t, q_tru_l, q_tru_n, q_add, q_sub, q_mul, q_fdiv, q_mod, q_pow, q_addL, q_addT, q_lt, q_le, q_gt, q_ge, q_eqS, q_neS, q_eqI, q_isN, q_isnN, q_isB, q_tsub, q_lsub, q_lenL, q_lenT, q_tupL, q_tupT, q_lstL, q_lstT, q_repr, q_max, q_min, q_kI, q_kS, q_sqL, q_sqT, q_evD, q_evL, q_argN, q_argC, q_arg, q_argD, q_atN, q_at0, q_at1, q_at2, q_at3, q_run, q_finD, q_finF, q_finN, q_finS, q_finO, q_finL, evTs_nil, evO_no, evDs_nil, evKs_nil, evRs_nil, evPs_nil, exs_nil, ex_retN, ex_pass, ex_brk, ex_cont, ev_var, ev_lit, ev_glob, ev_app, ev_ext, esc_dat, esc_fresh, esc_loc, esc_slot, escD_dat, escD_fresh, escD_slot, res_dat, res_fresh, res_slot, setR_dat, setR_fresh, setR_loc, setR_tup, setT_nm, setT_tup, setTs_nil, setTs_cons, setRs_nil2, freeAt_eq, looseAt_eq, O.bind_ok, List.mapM_cons, List.mapM_nil, Option.bind_eq_bind, Option.bind_some, Option.pure_def, Option.map_some, List.getElem?_cons_succ, List.getElem?_cons_zero, List.length_cons, List.length_nil, Nat.reduceAdd, Nat.reduceSub, Nat.le_refl, and_self, List.replicate_succ, List.replicate_zero, List.append_nil, List.cons_append, List.nil_append, List.set_cons_succ, List.set_cons_zero, List.all_cons, List.all_nil, Bool.and_true, Bool.true_and, Bool.not_true, Bool.not_false, Nat.sub_self, List.append_assoc, RV.weak, feed_count, k1, k3, k5, k7, w1, w2]
    generalize hx : (v % k.m0 + k.b * c + k.e) % k.m1 = x
    have hxb : x.natAbs < 2 ^ 64 := by rw [← hx]; exact emod_nat k3 k4
    simp only [cTst, cNeg, cNt, cAnd, cOr, cBin2, cBin, cCmp2, cCmp, cIte, cTup, cLst, cSub2, cSub, cSl3, cSl2, cSl, cCall2, cCall, cBi, cIsi, cDict, cComp, cTs, cO, cSeq, cRange, cEnum, cDs3, cDs2, cDs, cKs3, cKs2, cKs, cRs, cPs2, cPs, cNext, cAsg, cPar, cSetRs, cPut4, cPut3, cPut2, cPut, cRet, cIf, cSeqS, cFor, cSetSlot, cApp2, cApp, cExt, cComp7, r_tst, r_neg, r_nt, r_and, r_or, r_bin, r_cmp, r_ite, r_tup, r_lst, r_sub, r_slice, r_call, r_bi, r_isi, r_dict, r_comp, r_Ts, r_yes, r_seq, r_range, r_enum, r_Ds, r_Ks, r_Rs, r_Ps, r_seqS, r_asg, r_par, r_put, r_expr, r_ret, r_ifs, r_for, r_setRs, r_setSlot, r_app, r_ext, r_kcomp, q_var_d, q_var_o, q_var_l, q_var_n, q_tst, q_neg, q_andT, q_andF, q_orT, q_orF, q_bin, q_cmp, q_of, q_subL, q_look, q_subD, q_subF, q_subS, q_sub2, q_sl, q_call, q_up, q_bi, q_isi, q_tup, q_lst, q_iteT, q_iteF, q_tsT, q_tsF, q_seq, q_lendD, q_lendF, q_lendS, q_enumT, q_enumL, q_o, q_app, q_ext, q_esc_o, q_escD_o, q_res_o, q_res_l, q_res_d, q_nx, q_rt, q_bk, q_ct, q_ifT, q_ifF, q_put, q_putS, q_putOk, q_P_f, q_P_d, q_P_l, q_P_s, q_set, q_setT, q_setS, q_setTs, q_fr_d, q_fr_o, q_fr_n, q_fr_l, q_lo_d, q_lo_n, q_lo_l, q_tru_b, q_tru_i, q_tru_t, q_tru_l, q_tru_n, q_add, q_sub, q_mul, q_fdiv, q_mod, q_pow, q_addL, q_addT, q_lt, q_le, q_gt, q_ge, q_eqS, q_neS, q_eqI, q_isN, q_isnN, q_isB, q_tsub, q_lsub, q_lenL, q_lenT, q_tupL, q_tupT, q_lstL, q_lstT, q_repr, q_max, q_min, q_kI, q_kS, q_sqL, q_sqT, q_evD, q_evL, q_argN, q_argC, q_arg, q_argD, q_atN, q_at0, q_at1, q_at2, q_at3, q_run, q_finD, q_finF, q_finN, q_finS, q_finO, q_finL, evTs_nil, evO_no, evDs_nil, evKs_nil, evRs_nil, evPs_nil, exs_nil, ex_retN, ex_pass, ex_brk, ex_cont, ev_var, ev_lit, ev_glob, ev_app, ev_ext, esc_dat, esc_fresh, esc_loc, esc_slot, escD_dat, escD_fresh, escD_slot, res_dat, res_fresh, res_slot, setR_dat, setR_fresh, setR_loc, setR_tup, setT_nm, setT_tup, setTs_nil, setTs_cons, setRs_nil2, freeAt_eq, looseAt_eq, O.bind_ok, List.mapM_cons, List.mapM_nil, Option.bind_eq_bind, Option.bind_some, Option.pure_def, Option.map_some, List.getElem?_cons_succ, List.getElem?_cons_zero, List.length_cons, List.length_nil, Nat.reduceAdd, Nat.reduceSub, Nat.le_refl, and_self, List.replicate_succ, List.replicate_zero, List.append_nil, List.cons_append, List.nil_append, List.set_cons_succ, List.set_cons_zero, List.all_cons, List.all_nil, Bool.and_true, Bool.true_and, Bool.not_true, Bool.not_false, Nat.sub_self, List.append_assoc, RV.weak, feed_count, mul_ok hxb hxb, k1, k3, k5, k7, w1, w2]
    generalize hy : (x * x + k.f * c + k.g) % k.m2 = y
    have hyb : y.natAbs < 2 ^ 64 := by rw [← hy]; exact emod_nat k5 k6
    simp only [cTst, cNeg, cNt, cAnd, cOr, cBin2, cBin, cCmp2, cCmp, cIte, cTup, cLst, cSub2, cSub, cSl3, cSl2, cSl, cCall2, cCall, cBi, cIsi, cDict, cComp, cTs, cO, cSeq, cRange, cEnum, cDs3, cDs2, cDs, cKs3, cKs2, cKs, cRs, cPs2, cPs, cNext, cAsg, cPar, cSetRs, cPut4, cPut3, cPut2, cPut, cRet, cIf, cSeqS, cFor, cSetSlot, cApp2, cApp, cExt, cComp7, r_tst, r_neg, r_nt, r_and, r_or, r_bin, r_cmp, r_ite, r_tup, r_lst, r_sub, r_slice, r_call, r_bi, r_isi, r_dict, r_comp, r_Ts, r_yes, r_seq, r_range, r_enum, r_Ds, r_Ks, r_Rs, r_Ps, r_seqS, r_asg, r_par, r_put, r_expr, r_ret, r_ifs, r_for, r_setRs, r_setSlot, r_app, r_ext, r_kcomp, q_var_d, q_var_o, q_var_l, q_var_n, q_tst, q_neg, q_andT, q_andF, q_orT, q_orF, q_bin, q_cmp, q_of, q_subL, q_look, q_subD, q_subF, q_subS, q_sub2, q_sl, q_call, q_up, q_bi, q_isi, q_tup, q_lst, q_iteT, q_iteF, q_tsT, q_tsF, q_seq, q_lendD, q_lendF, q_lendS, q_enumT, q_enumL, q_o, q_app, q_ext, q_esc_o, q_escD_o, q_res_o, q_res_l, q_res_d, q_nx, q_rt, q_bk, q_ct, q_ifT, q_ifF, q_put, q_putS, q_putOk, q_P_f, q_P_d, q_P_l, q_P_s, q_set, q_setT, q_setS, q_setTs, q_fr_d, q_fr_o, q_fr_n, q_fr_l, q_lo_d, q_lo_n, q_lo_l, q_tru_b, q_tru_i, q_tru_t, q_tru_l, q_tru_n, q_add, q_sub, q_mul, q_fdiv, q_mod, q_pow, q_addL, q_addT, q_lt, q_le, q_gt, q_ge, q_eqS, q_neS, q_eqI, q_isN, q_isnN, q_isB, q_tsub, q_lsub, q_lenL, q_lenT, q_tupL, q_tupT, q_lstL, q_lstT, q_repr, q_max, q_min, q_kI, q_kS, q_sqL, q_sqT, q_evD, q_evL, q_argN, q_argC, q_arg, q_argD, q_atN, q_at0, q_at1, q_at2, q_at3, q_run, q_finD, q_finF, q_finN, q_finS, q_finO, q_finL, evTs_nil, evO_no, evDs_nil, evKs_nil, evRs_nil, evPs_nil, exs_nil, ex_retN, ex_pass, ex_brk, ex_cont, ev_var, ev_lit, ev_glob, ev_app, ev_ext, esc_dat, esc_fresh, esc_loc, esc_slot, escD_dat, escD_fresh, escD_slot, res_dat, res_fresh, res_slot, setR_dat, setR_fresh, setR_loc, setR_tup, setT_nm, setT_tup, setTs_nil, setTs_cons, setRs_nil2, freeAt_eq, looseAt_eq, O.bind_ok, List.mapM_cons, List.mapM_nil, Option.bind_eq_bind, Option.bind_some, Option.pure_def, Option.map_some, List.getElem?_cons_succ, List.getElem?_cons_zero, List.length_cons, List.length_nil, Nat.reduceAdd, Nat.reduceSub, Nat.le_refl, and_self, List.replicate_succ, List.replicate_zero, List.append_nil, List.cons_append, List.nil_append, List.set_cons_succ, List.set_cons_zero, List.all_cons, List.all_nil, Bool.and_true, Bool.true_and, Bool.not_true, Bool.not_false, Nat.sub_self, List.append_assoc, RV.weak, feed_count, mul_ok hyb hyb, mul_ok k11 hyb, k1, k3, k5, k7, hmn, p16]
    exact ⟨_, l, _, rfl, rfl, mod_many hm⟩
  by_cases h1 : (10 : Int) ^ (18 : Int).toNat ≤ v
  · rw [decide_eq_true h1]
    simp only [cTst, cNeg, cNt, cAnd, cOr, cBin2, cBin, cCmp2, cCmp, cIte, cTup, cLst, cSub2, cSub, cSl3, cSl2, cSl, cCall2, cCall, cBi, cIsi, cDict, cComp, cTs, cO, cSeq, cRange, cEnum, cDs3, cDs2, cDs, cKs3, cKs2, cKs, cRs, cPs2, cPs, cNext, cAsg, cPar, cSetRs, cPut4, cPut3, cPut2, cPut, cRet, cIf, cSeqS, cFor, cSetSlot, cApp2, cApp, cExt, cComp7, r_tst, r_neg, r_nt, r_and, r_or, r_bin, r_cmp, r_ite, r_tup, r_lst, r_sub, r_slice, r_call, r_bi, r_isi, r_dict, r_comp, r_Ts, r_yes, r_seq, r_range, r_enum, r_Ds, r_Ks, r_Rs, r_Ps, r_seqS, r_asg, r_par, r_put, r_expr, r_ret, r_ifs, r_for, r_setRs, r_setSlot, r_app, r_ext, r_kcomp, q_var_d, q_var_o, q_var_l, q_var_n, q_tst, q_neg, q_andT, q_andF, q_orT, q_orF, q_bin, q_cmp, q_of, q_subL, q_look, q_subD, q_subF, q_subS, q_sub2, q_sl, q_call, q_up, q_bi, q_isi, q_tup, q_lst, q_iteT, q_iteF, q_tsT, q_tsF, q_seq, q_lendD, q_lendF, q_lendS, q_enumT, q_enumL, q_o, q_app, q_ext, q_esc_o, q_escD_o, q_res_o, q_res_l, q_res_d, q_nx, q_rt, q_bk, q_ct, q_ifT, q_ifF, q_put, q_putS, q_putOk, q_P_f, q_P_d, q_P_l, q_P_s, q_set, q_setT, q_setS, q_setTs, q_fr_d, q_fr_o, q_fr_n, q_fr_l, q_lo_d, q_lo_n, q_lo_l, q_tru_b, q_tru_i, q_tru_t, q_tru_l, q_tru_n, q_add, q_sub, q_mul, q_fdiv, q_mod, q_pow, q_addL, q_addT, q_lt, q_le, q_gt, q_ge, q_eqS, q_neS, q_eqI, q_isN, q_isnN, q_isB, q_tsub, q_lsub, q_lenL, q_lenT, q_tupL, q_tupT, q_lstL, q_lstT, q_repr, q_max, q_min, q_kI, q_kS, q_sqL, q_sqT, q_evD, q_evL, q_argN, q_argC, q_arg, q_argD, q_atN, q_at0, q_at1, q_at2, q_at3, q_run, q_finD, q_finF, q_finN, q_finS, q_finO, q_finL, evTs_nil, evO_no, evDs_nil, evKs_nil, evRs_nil, evPs_nil, exs_nil, ex_retN, ex_pass, ex_brk, ex_cont, ev_var, ev_lit, ev_glob, ev_app, ev_ext, esc_dat, esc_fresh, esc_loc, esc_slot, escD_dat, escD_fresh, escD_slot, res_dat, res_fresh, res_slot, setR_dat, setR_fresh, setR_loc, setR_tup, setT_nm, setT_tup, setTs_nil, setTs_cons, setRs_nil2, freeAt_eq, looseAt_eq, O.bind_ok, List.mapM_cons, List.mapM_nil, Option.bind_eq_bind, Option.bind_some, Option.pure_def, Option.map_some, List.getElem?_cons_succ, List.getElem?_cons_zero, List.length_cons, List.length_nil, Nat.reduceAdd, Nat.reduceSub, Nat.le_refl, and_self, List.replicate_succ, List.replicate_zero, List.append_nil, List.cons_append, List.nil_append, List.set_cons_succ, List.set_cons_zero, List.all_cons, List.all_nil, Bool.and_true, Bool.true_and, Bool.not_true, Bool.not_false, Nat.sub_self, List.append_assoc, RV.weak, feed_cells]
    by_cases h2 : a0 < ((cells.map PyData.int).length : Int)
    · rw [decide_eq_true h2]
      simp only [cTst, cNeg, cNt, cAnd, cOr, cBin2, cBin, cCmp2, cCmp, cIte, cTup, cLst, cSub2, cSub, cSl3, cSl2, cSl, cCall2, cCall, cBi, cIsi, cDict, cComp, cTs, cO, cSeq, cRange, cEnum, cDs3, cDs2, cDs, cKs3, cKs2, cKs, cRs, cPs2, cPs, cNext, cAsg, cPar, cSetRs, cPut4, cPut3, cPut2, cPut, cRet, cIf, cSeqS, cFor, cSetSlot, cApp2, cApp, cExt, cComp7, r_tst, r_neg, r_nt, r_and, r_or, r_bin, r_cmp, r_ite, r_tup, r_lst, r_sub, r_slice, r_call, r_bi, r_isi, r_dict, r_comp, r_Ts, r_yes, r_seq, r_range, r_enum, r_Ds, r_Ks, r_Rs, r_Ps, r_seqS, r_asg, r_par, r_put, r_expr, r_ret, r_ifs, r_for, r_setRs, r_setSlot, r_app, r_ext, r_kcomp, q_var_d, q_var_o, q_var_l, q_var_n, q_tst, q_neg, q_andT, q_andF, q_orT, q_orF, q_bin, q_cmp, q_of, q_subL, q_look, q_subD, q_subF, q_subS, q_sub2, q_sl, q_call, q_up, q_bi, q_isi, q_tup, q_lst, q_iteT, q_iteF, q_tsT, q_tsF, q_seq, q_lendD, q_lendF, q_lendS, q_enumT, q_enumL, q_o, q_app, q_ext, q_esc_o, q_escD_o, q_res_o, q_res_l, q_res_d, q_nx, q_rt, q_bk, q_ct, q_ifT, q_ifF, q_put, q_putS, q_putOk, q_P_f, q_P_d, q_P_l, q_P_s, q_set, q_setT, q_setS, q_setTs, q_fr_d, q_fr_o, q_fr_n, q_fr_l, q_lo_d, q_lo_n, q_lo_l, q_tru_b, q_tru_i, q_tru_t, q_tru_l, q_tru_n, q_add, q_sub, q_mul, q_fdiv, q_mod, q_pow, q_addL, q_addT, q_lt, q_le, q_gt, q_ge, q_eqS, q_neS, q_eqI, q_isN, q_isnN, q_isB, q_tsub, q_lsub, q_lenL, q_lenT, q_tupL, q_tupT, q_lstL, q_lstT, q_repr, q_max, q_min, q_kI, q_kS, q_sqL, q_sqT, q_evD, q_evL, q_argN, q_argC, q_arg, q_argD, q_atN, q_at0, q_at1, q_at2, q_at3, q_run, q_finD, q_finF, q_finN, q_finS, q_finO, q_finL, evTs_nil, evO_no, evDs_nil, evKs_nil, evRs_nil, evPs_nil, exs_nil, ex_retN, ex_pass, ex_brk, ex_cont, ev_var, ev_lit, ev_glob, ev_app, ev_ext, esc_dat, esc_fresh, esc_loc, esc_slot, escD_dat, escD_fresh, escD_slot, res_dat, res_fresh, res_slot, setR_dat, setR_fresh, setR_loc, setR_tup, setT_nm, setT_tup, setTs_nil, setTs_cons, setRs_nil2, freeAt_eq, looseAt_eq, O.bind_ok, List.mapM_cons, List.mapM_nil, Option.bind_eq_bind, Option.bind_some, Option.pure_def, Option.map_some, List.getElem?_cons_succ, List.getElem?_cons_zero, List.length_cons, List.length_nil, Nat.reduceAdd, Nat.reduceSub, Nat.le_refl, and_self, List.replicate_succ, List.replicate_zero, List.append_nil, List.cons_append, List.nil_append, List.set_cons_succ, List.set_cons_zero, List.all_cons, List.all_nil, Bool.and_true, Bool.true_and, Bool.not_true, Bool.not_false, Nat.sub_self, List.append_assoc, RV.weak, feed_left, put_left, feed_lt, hmn]
      exact ⟨_, _, _, rfl, rfl, mod_many hm⟩
    · rw [decide_eq_false h2]
      simp only [q_ifF, exs_nil, O.bind_ok, cSeqS, q_nx, q_tru_b, q_of, cTst, q_tst, res_dat, cIf]
      exact tail _ rfl
  · rw [decide_eq_false h1]
    simp only [q_andF, RV.weak, q_ifF, exs_nil, O.bind_ok, cSeqS, q_nx, q_tru_b, q_of, cTst, q_tst, res_dat, cIf]
    exact tail _ rfl
/-- a draw: some number below many -/
theorem draw_ok {C : Cn} {k : Dr} (hk : k.ok = true) {cells : List Int} {a l c many : Int} (hm : 0 < many) (hm2 : many.natAbs.log2 < 9000) (hc : c.natAbs < 2 ^ 60) :
    ∃ r a' l', kRun C ⟨2, 6, drawB k⟩ [.loc 0, .dat (.int many)] [feedOf cells a l c] (some [.loc 0, .dat (.int many)]) = .ok (.dat (.int r)) [feedOf cells a' l' (c + 1)] ∧ 0 ≤ r ∧ r < many := by
  have hmn : 0 < many ∧ many.natAbs.log2 < 9000 := ⟨hm, hm2⟩
  have c1 : (c + 1).natAbs < 2 ^ 62 := by omega
  rw [q_run ⟨rfl, (by decide : 2 ≤ 6)⟩]
  unfold drawB
  simp only [cTst, cNeg, cNt, cAnd, cOr, cBin2, cBin, cCmp2, cCmp, cIte, cTup, cLst, cSub2, cSub, cSl3, cSl2, cSl, cCall2, cCall, cBi, cIsi, cDict, cComp, cTs, cO, cSeq, cRange, cEnum, cDs3, cDs2, cDs, cKs3, cKs2, cKs, cRs, cPs2, cPs, cNext, cAsg, cPar, cSetRs, cPut4, cPut3, cPut2, cPut, cRet, cIf, cSeqS, cFor, cSetSlot, cApp2, cApp, cExt, cComp7, r_tst, r_neg, r_nt, r_and, r_or, r_bin, r_cmp, r_ite, r_tup, r_lst, r_sub, r_slice, r_call, r_bi, r_isi, r_dict, r_comp, r_Ts, r_yes, r_seq, r_range, r_enum, r_Ds, r_Ks, r_Rs, r_Ps, r_seqS, r_asg, r_par, r_put, r_expr, r_ret, r_ifs, r_for, r_setRs, r_setSlot, r_app, r_ext, r_kcomp, q_var_d, q_var_o, q_var_l, q_var_n, q_tst, q_neg, q_andT, q_andF, q_orT, q_orF, q_bin, q_cmp, q_of, q_subL, q_look, q_subD, q_subF, q_subS, q_sub2, q_sl, q_call, q_up, q_bi, q_isi, q_tup, q_lst, q_iteT, q_iteF, q_tsT, q_tsF, q_seq, q_lendD, q_lendF, q_lendS, q_enumT, q_enumL, q_o, q_app, q_ext, q_esc_o, q_escD_o, q_res_o, q_res_l, q_res_d, q_nx, q_rt, q_bk, q_ct, q_ifT, q_ifF, q_put, q_putS, q_putOk, q_P_f, q_P_d, q_P_l, q_P_s, q_set, q_setT, q_setS, q_setTs, q_fr_d, q_fr_o, q_fr_n, q_fr_l, q_lo_d, q_lo_n, q_lo_l, q_tru_b, q_tru_i, q_tru_t, q_tru_l, q_tru_n, q_add, q_sub, q_mul, q_fdiv, q_mod, q_pow, q_addL, q_addT, q_lt, q_le, q_gt, q_ge, q_eqS, q_neS, q_eqI, q_isN, q_isnN, q_isB, q_tsub, q_lsub, q_lenL, q_lenT, q_tupL, q_tupT, q_lstL, q_lstT, q_repr, q_max, q_min, q_kI, q_kS, q_sqL, q_sqT, q_evD, q_evL, q_argN, q_argC, q_arg, q_argD, q_atN, q_at0, q_at1, q_at2, q_at3, q_run, q_finD, q_finF, q_finN, q_finS, q_finO, q_finL, evTs_nil, evO_no, evDs_nil, evKs_nil, evRs_nil, evPs_nil, exs_nil, ex_retN, ex_pass, ex_brk, ex_cont, ev_var, ev_lit, ev_glob, ev_app, ev_ext, esc_dat, esc_fresh, esc_loc, esc_slot, escD_dat, escD_fresh, escD_slot, res_dat, res_fresh, res_slot, setR_dat, setR_fresh, setR_loc, setR_tup, setT_nm, setT_tup, setTs_nil, setTs_cons, setRs_nil2, freeAt_eq, looseAt_eq, O.bind_ok, List.mapM_cons, List.mapM_nil, Option.bind_eq_bind, Option.bind_some, Option.pure_def, Option.map_some, List.getElem?_cons_succ, List.getElem?_cons_zero, List.length_cons, List.length_nil, Nat.reduceAdd, Nat.reduceSub, Nat.le_refl, and_self, List.replicate_succ, List.replicate_zero, List.append_nil, List.cons_append, List.nil_append, List.set_cons_succ, List.set_cons_zero, List.all_cons, List.all_nil, Bool.and_true, Bool.true_and, Bool.not_true, Bool.not_false, Nat.sub_self, List.append_assoc, RV.weak, feed_cells, feed_at, feed_left, feed_count, put_at, put_left, put_count, feed_lt]
  by_cases hl : 0 < l
  · rw [decide_eq_true hl]
    simp only [cTst, cNeg, cNt, cAnd, cOr, cBin2, cBin, cCmp2, cCmp, cIte, cTup, cLst, cSub2, cSub, cSl3, cSl2, cSl, cCall2, cCall, cBi, cIsi, cDict, cComp, cTs, cO, cSeq, cRange, cEnum, cDs3, cDs2, cDs, cKs3, cKs2, cKs, cRs, cPs2, cPs, cNext, cAsg, cPar, cSetRs, cPut4, cPut3, cPut2, cPut, cRet, cIf, cSeqS, cFor, cSetSlot, cApp2, cApp, cExt, cComp7, r_tst, r_neg, r_nt, r_and, r_or, r_bin, r_cmp, r_ite, r_tup, r_lst, r_sub, r_slice, r_call, r_bi, r_isi, r_dict, r_comp, r_Ts, r_yes, r_seq, r_range, r_enum, r_Ds, r_Ks, r_Rs, r_Ps, r_seqS, r_asg, r_par, r_put, r_expr, r_ret, r_ifs, r_for, r_setRs, r_setSlot, r_app, r_ext, r_kcomp, q_var_d, q_var_o, q_var_l, q_var_n, q_tst, q_neg, q_andT, q_andF, q_orT, q_orF, q_bin, q_cmp, q_of, q_subL, q_look, q_subD, q_subF, q_subS, q_sub2, q_sl, q_call, q_up, q_bi, q_isi, q_tup, q_lst, q_iteT, q_iteF, q_tsT, q_tsF, q_seq, q_lendD, q_lendF, q_lendS, q_enumT, q_enumL, q_o, q_app, q_ext, q_esc_o, q_escD_o, q_res_o, q_res_l, q_res_d, q_nx, q_rt, q_bk, q_ct, q_ifT, q_ifF, q_put, q_putS, q_putOk, q_P_f, q_P_d, q_P_l, q_P_s, q_set, q_setT, q_setS, q_setTs, q_fr_d, q_fr_o, q_fr_n, q_fr_l, q_lo_d, q_lo_n, q_lo_l, q_tru_b, q_tru_i, q_tru_t, q_tru_l, q_tru_n, q_add, q_sub, q_mul, q_fdiv, q_mod, q_pow, q_addL, q_addT, q_lt, q_le, q_gt, q_ge, q_eqS, q_neS, q_eqI, q_isN, q_isnN, q_isB, q_tsub, q_lsub, q_lenL, q_lenT, q_tupL, q_tupT, q_lstL, q_lstT, q_repr, q_max, q_min, q_kI, q_kS, q_sqL, q_sqT, q_evD, q_evL, q_argN, q_argC, q_arg, q_argD, q_atN, q_at0, q_at1, q_at2, q_at3, q_run, q_finD, q_finF, q_finN, q_finS, q_finO, q_finL, evTs_nil, evO_no, evDs_nil, evKs_nil, evRs_nil, evPs_nil, exs_nil, ex_retN, ex_pass, ex_brk, ex_cont, ev_var, ev_lit, ev_glob, ev_app, ev_ext, esc_dat, esc_fresh, esc_loc, esc_slot, escD_dat, escD_fresh, escD_slot, res_dat, res_fresh, res_slot, setR_dat, setR_fresh, setR_loc, setR_tup, setT_nm, setT_tup, setTs_nil, setTs_cons, setRs_nil2, freeAt_eq, looseAt_eq, O.bind_ok, List.mapM_cons, List.mapM_nil, Option.bind_eq_bind, Option.bind_some, Option.pure_def, Option.map_some, List.getElem?_cons_succ, List.getElem?_cons_zero, List.length_cons, List.length_nil, Nat.reduceAdd, Nat.reduceSub, Nat.le_refl, and_self, List.replicate_succ, List.replicate_zero, List.append_nil, List.cons_append, List.nil_append, List.set_cons_succ, List.set_cons_zero, List.all_cons, List.all_nil, Bool.and_true, Bool.true_and, Bool.not_true, Bool.not_false, Nat.sub_self, List.append_assoc, RV.weak, feed_cells, feed_at, feed_left, feed_count, put_at, put_left, put_count, feed_lt, hmn]
    exact ⟨_, _, _, rfl, mod_many hm⟩
  · rw [decide_eq_false hl]
    simp only [cTst, cNeg, cNt, cAnd, cOr, cBin2, cBin, cCmp2, cCmp, cIte, cTup, cLst, cSub2, cSub, cSl3, cSl2, cSl, cCall2, cCall, cBi, cIsi, cDict, cComp, cTs, cO, cSeq, cRange, cEnum, cDs3, cDs2, cDs, cKs3, cKs2, cKs, cRs, cPs2, cPs, cNext, cAsg, cPar, cSetRs, cPut4, cPut3, cPut2, cPut, cRet, cIf, cSeqS, cFor, cSetSlot, cApp2, cApp, cExt, cComp7, r_tst, r_neg, r_nt, r_and, r_or, r_bin, r_cmp, r_ite, r_tup, r_lst, r_sub, r_slice, r_call, r_bi, r_isi, r_dict, r_comp, r_Ts, r_yes, r_seq, r_range, r_enum, r_Ds, r_Ks, r_Rs, r_Ps, r_seqS, r_asg, r_par, r_put, r_expr, r_ret, r_ifs, r_for, r_setRs, r_setSlot, r_app, r_ext, r_kcomp, q_var_d, q_var_o, q_var_l, q_var_n, q_tst, q_neg, q_andT, q_andF, q_orT, q_orF, q_bin, q_cmp, q_of, q_subL, q_look, q_subD, q_subF, q_subS, q_sub2, q_sl, q_call, q_up, q_bi, q_isi, q_tup, q_lst, q_iteT, q_iteF, q_tsT, q_tsF, q_seq, q_lendD, q_lendF, q_lendS, q_enumT, q_enumL, q_o, q_app, q_ext, q_esc_o, q_escD_o, q_res_o, q_res_l, q_res_d, q_nx, q_rt, q_bk, q_ct, q_ifT, q_ifF, q_put, q_putS, q_putOk, q_P_f, q_P_d, q_P_l, q_P_s, q_set, q_setT, q_setS, q_setTs, q_fr_d, q_fr_o, q_fr_n, q_fr_l, q_lo_d, q_lo_n, q_lo_l, q_tru_b, q_tru_i, q_tru_t, q_tru_l, q_tru_n, q_add, q_sub, q_mul, q_fdiv, q_mod, q_pow, q_addL, q_addT, q_lt, q_le, q_gt, q_ge, q_eqS, q_neS, q_eqI, q_isN, q_isnN, q_isB, q_tsub, q_lsub, q_lenL, q_lenT, q_tupL, q_tupT, q_lstL, q_lstT, q_repr, q_max, q_min, q_kI, q_kS, q_sqL, q_sqT, q_evD, q_evL, q_argN, q_argC, q_arg, q_argD, q_atN, q_at0, q_at1, q_at2, q_at3, q_run, q_finD, q_finF, q_finN, q_finS, q_finO, q_finL, evTs_nil, evO_no, evDs_nil, evKs_nil, evRs_nil, evPs_nil, exs_nil, ex_retN, ex_pass, ex_brk, ex_cont, ev_var, ev_lit, ev_glob, ev_app, ev_ext, esc_dat, esc_fresh, esc_loc, esc_slot, escD_dat, escD_fresh, escD_slot, res_dat, res_fresh, res_slot, setR_dat, setR_fresh, setR_loc, setR_tup, setT_nm, setT_tup, setTs_nil, setTs_cons, setRs_nil2, freeAt_eq, looseAt_eq, O.bind_ok, List.mapM_cons, List.mapM_nil, Option.bind_eq_bind, Option.bind_some, Option.pure_def, Option.map_some, List.getElem?_cons_succ, List.getElem?_cons_zero, List.length_cons, List.length_nil, Nat.reduceAdd, Nat.reduceSub, Nat.le_refl, and_self, List.replicate_succ, List.replicate_zero, List.append_nil, List.cons_append, List.nil_append, List.set_cons_succ, List.set_cons_zero, List.all_cons, List.all_nil, Bool.and_true, Bool.true_and, Bool.not_true, Bool.not_false, Nat.sub_self, List.append_assoc, RV.weak, feed_cells, feed_at, feed_left, feed_count, put_at, put_left, put_count, feed_lt, q_lst nil_lim, ne_nil]
    have fin1 : ∀ v : Int, ∃ r a' l', fin 1 (exs C (drawT k) ⟨[.loc 0, .dat (.int many), .non, .dat (.int a), .dat (.int v), .non], [feedOf cells (a + 1) l (c + 1)]⟩) = .ok (.dat (.int r)) [feedOf cells a' l' (c + 1)] ∧ 0 ≤ r ∧ r < many := fun v => by
      obtain ⟨r, l', s', e1, e2, e3⟩ := drawT_ok (C := C) hk (cells := cells) (a0 := a) (a := a + 1) (l := l) (c := c + 1) (many := many) (v := v) hm hm2 c1
      refine ⟨r, a + 1, l', ?_, e3⟩
      rw [e1, q_finD, e2]; rfl
    cases cells with
    | nil =>
      simp only [cTst, cNeg, cNt, cAnd, cOr, cBin2, cBin, cCmp2, cCmp, cIte, cTup, cLst, cSub2, cSub, cSl3, cSl2, cSl, cCall2, cCall, cBi, cIsi, cDict, cComp, cTs, cO, cSeq, cRange, cEnum, cDs3, cDs2, cDs, cKs3, cKs2, cKs, cRs, cPs2, cPs, cNext, cAsg, cPar, cSetRs, cPut4, cPut3, cPut2, cPut, cRet, cIf, cSeqS, cFor, cSetSlot, cApp2, cApp, cExt, cComp7, r_tst, r_neg, r_nt, r_and, r_or, r_bin, r_cmp, r_ite, r_tup, r_lst, r_sub, r_slice, r_call, r_bi, r_isi, r_dict, r_comp, r_Ts, r_yes, r_seq, r_range, r_enum, r_Ds, r_Ks, r_Rs, r_Ps, r_seqS, r_asg, r_par, r_put, r_expr, r_ret, r_ifs, r_for, r_setRs, r_setSlot, r_app, r_ext, r_kcomp, q_var_d, q_var_o, q_var_l, q_var_n, q_tst, q_neg, q_andT, q_andF, q_orT, q_orF, q_bin, q_cmp, q_of, q_subL, q_look, q_subD, q_subF, q_subS, q_sub2, q_sl, q_call, q_up, q_bi, q_isi, q_tup, q_lst, q_iteT, q_iteF, q_tsT, q_tsF, q_seq, q_lendD, q_lendF, q_lendS, q_enumT, q_enumL, q_o, q_app, q_ext, q_esc_o, q_escD_o, q_res_o, q_res_l, q_res_d, q_nx, q_rt, q_bk, q_ct, q_ifT, q_ifF, q_put, q_putS, q_putOk, q_P_f, q_P_d, q_P_l, q_P_s, q_set, q_setT, q_setS, q_setTs, q_fr_d, q_fr_o, q_fr_n, q_fr_l, q_lo_d, q_lo_n, q_lo_l, q_tru_b, q_tru_i, q_tru_t, q_tru_l, q_tru_n, q_add, q_sub, q_mul, q_fdiv, q_mod, q_pow, q_addL, q_addT, q_lt, q_le, q_gt, q_ge, q_eqS, q_neS, q_eqI, q_isN, q_isnN, q_isB, q_tsub, q_lsub, q_lenL, q_lenT, q_tupL, q_tupT, q_lstL, q_lstT, q_repr, q_max, q_min, q_kI, q_kS, q_sqL, q_sqT, q_evD, q_evL, q_argN, q_argC, q_arg, q_argD, q_atN, q_at0, q_at1, q_at2, q_at3, q_run, q_finD, q_finF, q_finN, q_finS, q_finO, q_finL, evTs_nil, evO_no, evDs_nil, evKs_nil, evRs_nil, evPs_nil, exs_nil, ex_retN, ex_pass, ex_brk, ex_cont, ev_var, ev_lit, ev_glob, ev_app, ev_ext, esc_dat, esc_fresh, esc_loc, esc_slot, escD_dat, escD_fresh, escD_slot, res_dat, res_fresh, res_slot, setR_dat, setR_fresh, setR_loc, setR_tup, setT_nm, setT_tup, setTs_nil, setTs_cons, setRs_nil2, freeAt_eq, looseAt_eq, O.bind_ok, List.mapM_cons, List.mapM_nil, Option.bind_eq_bind, Option.bind_some, Option.pure_def, Option.map_some, List.getElem?_cons_succ, List.getElem?_cons_zero, List.length_cons, List.length_nil, Nat.reduceAdd, Nat.reduceSub, Nat.le_refl, and_self, List.replicate_succ, List.replicate_zero, List.append_nil, List.cons_append, List.nil_append, List.set_cons_succ, List.set_cons_zero, List.all_cons, List.all_nil, Bool.and_true, Bool.true_and, Bool.not_true, Bool.not_false, Nat.sub_self, List.append_assoc, RV.weak, List.isEmpty_nil]
      exact fin1 k.d
    | cons x xs =>
      have hlen : (0 : Int) < (((x :: xs).map PyData.int).length : Int) := by simp
      obtain ⟨h1, h2⟩ := mod_many (i := a) hlen
      obtain ⟨j, hj⟩ : ∃ j : Nat, a % (((x :: xs).map PyData.int).length : Int) = j := ⟨_, (Int.toNat_of_nonneg h1).symm⟩
      have hjl : j < ((x :: xs).map PyData.int).length := by rw [hj] at h2; omega
      have hv : ∃ v : Int, ((x :: xs).map PyData.int)[j] = .int v := ⟨(x :: xs)[j]'(by simpa using hjl), by rw [List.getElem_map]⟩
      obtain ⟨v, hv⟩ := hv
      simp only [cTst, cNeg, cNt, cAnd, cOr, cBin2, cBin, cCmp2, cCmp, cIte, cTup, cLst, cSub2, cSub, cSl3, cSl2, cSl, cCall2, cCall, cBi, cIsi, cDict, cComp, cTs, cO, cSeq, cRange, cEnum, cDs3, cDs2, cDs, cKs3, cKs2, cKs, cRs, cPs2, cPs, cNext, cAsg, cPar, cSetRs, cPut4, cPut3, cPut2, cPut, cRet, cIf, cSeqS, cFor, cSetSlot, cApp2, cApp, cExt, cComp7, r_tst, r_neg, r_nt, r_and, r_or, r_bin, r_cmp, r_ite, r_tup, r_lst, r_sub, r_slice, r_call, r_bi, r_isi, r_dict, r_comp, r_Ts, r_yes, r_seq, r_range, r_enum, r_Ds, r_Ks, r_Rs, r_Ps, r_seqS, r_asg, r_par, r_put, r_expr, r_ret, r_ifs, r_for, r_setRs, r_setSlot, r_app, r_ext, r_kcomp, q_var_d, q_var_o, q_var_l, q_var_n, q_tst, q_neg, q_andT, q_andF, q_orT, q_orF, q_bin, q_cmp, q_of, q_subL, q_look, q_subD, q_subF, q_subS, q_sub2, q_sl, q_call, q_up, q_bi, q_isi, q_tup, q_lst, q_iteT, q_iteF, q_tsT, q_tsF, q_seq, q_lendD, q_lendF, q_lendS, q_enumT, q_enumL, q_o, q_app, q_ext, q_esc_o, q_escD_o, q_res_o, q_res_l, q_res_d, q_nx, q_rt, q_bk, q_ct, q_ifT, q_ifF, q_put, q_putS, q_putOk, q_P_f, q_P_d, q_P_l, q_P_s, q_set, q_setT, q_setS, q_setTs, q_fr_d, q_fr_o, q_fr_n, q_fr_l, q_lo_d, q_lo_n, q_lo_l, q_tru_b, q_tru_i, q_tru_t, q_tru_l, q_tru_n, q_add, q_sub, q_mul, q_fdiv, q_mod, q_pow, q_addL, q_addT, q_lt, q_le, q_gt, q_ge, q_eqS, q_neS, q_eqI, q_isN, q_isnN, q_isB, q_tsub, q_lsub, q_lenL, q_lenT, q_tupL, q_tupT, q_lstL, q_lstT, q_repr, q_max, q_min, q_kI, q_kS, q_sqL, q_sqT, q_evD, q_evL, q_argN, q_argC, q_arg, q_argD, q_atN, q_at0, q_at1, q_at2, q_at3, q_run, q_finD, q_finF, q_finN, q_finS, q_finO, q_finL, evTs_nil, evO_no, evDs_nil, evKs_nil, evRs_nil, evPs_nil, exs_nil, ex_retN, ex_pass, ex_brk, ex_cont, ev_var, ev_lit, ev_glob, ev_app, ev_ext, esc_dat, esc_fresh, esc_loc, esc_slot, escD_dat, escD_fresh, escD_slot, res_dat, res_fresh, res_slot, setR_dat, setR_fresh, setR_loc, setR_tup, setT_nm, setT_tup, setTs_nil, setTs_cons, setRs_nil2, freeAt_eq, looseAt_eq, O.bind_ok, List.mapM_cons, List.mapM_nil, Option.bind_eq_bind, Option.bind_some, Option.pure_def, Option.map_some, List.getElem?_cons_succ, List.getElem?_cons_zero, List.length_cons, List.length_nil, Nat.reduceAdd, Nat.reduceSub, Nat.le_refl, and_self, List.replicate_succ, List.replicate_zero, List.append_nil, List.cons_append, List.nil_append, List.set_cons_succ, List.set_cons_zero, List.all_cons, List.all_nil, Bool.and_true, Bool.true_and, Bool.not_true, Bool.not_false, Nat.sub_self, List.append_assoc, RV.weak, List.isEmpty_cons, feed_cells, hlen, hj, q_atN hjl, hv]
      exact fin1 v
end Pur
end
section
set_option Elab.async false
set_option linter.all false
set_option maxRecDepth 20000
namespace Pur
open PySem L2
/-! ### more rewriting -/
def cTurn4 (vs : List Nat) (d : D) (s : Sg) : O (Option D) := .ok (some d) { s with env := wipeE s.env vs }
def cTurn3 (vs : List Nat) (r : RV) (s : Sg) : O (Option D) := (s.escD r).bind (cTurn4 vs)
def kTurn2 (C : Cn) (vs : List Nat) (e : CE) (s : Sg) : Bool → O (Option D)
  | true => (ev C e s).bind (cTurn3 vs)
  | false => .ok none { s with env := wipeE s.env vs }
def cTurn (C : Cn) (vs : List Nat) (e : CE) (k : Bool) (s : Sg) : O (Option D) := kTurn2 C vs e s k
def kTurn (C : Cn) (vs : List Nat) (cond : CEs) (e : CE) : Option Sg → O (Option D)
  | some s => (evTs C cond s).bind (cTurn C vs e)
  | none => .stuck
section
variable {C : Cn} {tg : Tg} {vs : List Nat} {cond : CEs} {e : CE} {x : D} {s : Sg} {env old : List EV} {v i : Nat}
theorem r_turn : turnF C tg vs cond e x s = kTurn C vs cond e (setT tg x s) := by
  unfold turnF
  cases setT tg x s with
  | none => rfl
  | some s1 => exact bindq fun k s2 => by cases k <;> rfl
theorem q_turn : kTurn C vs cond e (some s) = (evTs C cond s).bind (cTurn C vs e) := rfl
theorem q_turnT : kTurn2 C vs e s true = (ev C e s).bind (cTurn3 vs) := rfl
theorem q_turnF : kTurn2 C vs e s false = .ok none { s with env := wipeE s.env vs } := rfl
theorem q_wipe0 : wipeE env [] = env := rfl
theorem q_wipe1 : wipeE env (v :: vs) = (wipeE env vs).set v .non := rfl
theorem q_back0 : backE old env [] = env := rfl
theorem q_back1 : backE old env (v :: vs) = (backE old env vs).set v (old.getD v .non) := rfl
theorem q_lend0 : lendE none env = env := rfl
theorem q_unlend0 : unlendE none env = env := rfl
def kLendE (i : Nat) (env : List EV) : Option EV → List EV
  | some (.own xs) => env.set i (.lent xs)
  | _ => env
theorem q_lend1 : lendE (some i) env = kLendE i env env[i]? := by
  unfold lendE kLendE
  try dsimp only
  all_goals (rcases env[i]? with _ | x <;> first | rfl | (cases x <;> rfl))
theorem q_lend2 {xs : List D} : kLendE i env (some (.own xs)) = env.set i (.lent xs) := rfl
def kUnlendE (i : Nat) (env : List EV) : Option EV → List EV
  | some (.lent xs) => env.set i (.own xs)
  | _ => env
theorem q_unlend1 : unlendE (some i) env = kUnlendE i env env[i]? := by
  unfold unlendE kUnlendE
  try dsimp only
  all_goals (rcases env[i]? with _ | x <;> first | rfl | (cases x <;> rfl))
theorem q_unlend2 {xs : List D} : kUnlendE i env (some (.lent xs)) = env.set i (.own xs) := rfl
theorem q_un {α : Type} {ln : Option Nat} {a : α} : (O.ok a s).unlend ln = .ok a { s with env := unlendE ln s.env } := rfl
theorem q_lends_o {xs : List D} : kLends i (some (.own xs)) = some i := rfl
theorem q_lends_d {d : D} : kLends i (some (.dat d)) = none := rfl
theorem q_lends_l {xs : List D} : kLends i (some (.lent xs)) = none := rfl
end
theorem q_range1 {j : Int} (h : okI j = true) : rangeD [.int j] = some (upTo 0 j.toNat) := if_pos h
theorem q_range2 {i j : Int} (h : okI i = true) (h2 : okI j = true) : rangeD [.int i, .int j] = some (upTo i (j - i).toNat) := if_pos (by rw [h, h2]; rfl)
/-! ### loops -/
theorem compL_pure {f : D → Sg → O (Option D)} {s : Sg} {g : D → Option D} : ∀ {xs acc : List D}, (∀ x ∈ xs, f x s = .ok (g x) s) → acc.length + xs.length ≤ lim → compL f xs acc s = .ok (acc ++ xs.filterMap g) s
  | [], acc, _, _ => by rw [compL]; simp
  | x :: xs, acc, h, hl => by
    rw [compL, h x List.mem_cons_self]
    simp only [List.length_cons] at hl
    cases e : g x with
    | none =>
      dsimp only
      rw [compL_pure (fun y m => h y (List.mem_cons_of_mem _ m)) (by omega), List.filterMap_cons, e]
    | some d =>
      dsimp only
      rw [if_pos (by omega), compL_pure (fun y m => h y (List.mem_cons_of_mem _ m)) (by simp; omega), List.filterMap_cons, e]
      simp
/-- a comprehension whose turns turn the store -/
theorem compL_st {f : D → Sg → O (Option D)} {env : List EV} {P : D → Prop} {Q : Nat → Sto → Prop} : ∀ {xs acc : List D} {i : Nat} {st : Sto}, Q i st → (∀ x ∈ xs, ∀ j st, j < i + xs.length → Q j st → ∃ d st', f x ⟨env, st⟩ = .ok (some d) ⟨env, st'⟩ ∧ P d ∧ Q (j + 1) st') → acc.length + xs.length ≤ lim → (∀ d ∈ acc, P d) →
    ∃ ys st', compL f xs acc ⟨env, st⟩ = .ok ys ⟨env, st'⟩ ∧ ys.length = acc.length + xs.length ∧ (∀ d ∈ ys, P d) ∧ Q (i + xs.length) st'
  | [], acc, i, st, q, _, _, ha => ⟨acc, st, rfl, rfl, ha, q⟩
  | x :: xs, acc, i, st, q, h, hl, ha => by
    obtain ⟨d, st1, e1, p1, q1⟩ := h x List.mem_cons_self i st (by simp) q
    simp only [List.length_cons] at hl
    obtain ⟨ys, st', e2, l2, p2, q2⟩ := compL_st (xs := xs) (acc := acc ++ [d]) q1 (fun y m j st hj => h y (List.mem_cons_of_mem _ m) j st (by simp only [List.length_cons]; omega)) (by simp; omega) (fun d' m => (List.mem_append.mp m).elim (ha d') fun m => by rw [List.mem_singleton.mp m]; exact p1)
    refine ⟨ys, st', ?_, ?_, p2, ?_⟩
    · rw [compL, e1]
      dsimp only
      rw [if_pos (by omega), e2]
    · rw [l2]; simp; omega
    · have : i + 1 + xs.length = i + (x :: xs).length := by simp; omega
      rw [← this]; exact q2
theorem forL_rule {t : Tg} {f : Sg → O Fl} (I : Nat → Sg → Prop) : ∀ {xs : List D} {i : Nat} {s : Sg}, I i s → (∀ j x s, xs[j]? = some x → I (i + j) s → ∃ s1 s2, setT t x s = some s1 ∧ f s1 = .ok .next s2 ∧ I (i + j + 1) s2) → ∃ s', forL t f xs s = .ok .next s' ∧ I (i + xs.length) s'
  | [], i, s, h0, _ => ⟨s, rfl, h0⟩
  | x :: xs, i, s, h0, h => by
    obtain ⟨s1, s2, e1, e2, h2⟩ := h 0 x s rfl h0
    obtain ⟨s', e3, h3⟩ := forL_rule I (xs := xs) (i := i + 1) (s := s2) h2 fun j y s' m hi => by
      have e0 : i + (j + 1) = i + 1 + j := by omega
      have := h (j + 1) y s' (by simpa using m) (by rw [e0]; exact hi)
      obtain ⟨u1, u2, w1, w2, w3⟩ := this
      refine ⟨u1, u2, w1, w2, ?_⟩
      have e : i + (j + 1) + 1 = i + 1 + j + 1 := by omega
      rw [← e]; exact w3
    refine ⟨s', ?_, ?_⟩
    · rw [forL, e1]
      dsimp only
      rw [e2]
      exact e3
    · have : i + 1 + xs.length = i + (x :: xs).length := by simp; omega
      rw [← this]; exact h3
/-! ### what may be shown -/
/-- plain data, not deep, not long -/
structure Fine (k n : Nat) (d : D) : Prop where
  sh : d.showable = true
  lv : d.leavesShort 80 = true
  cl : d.canLay0 = true
  dp : d.depth ≤ k
  wt : d.weight ≤ n
theorem Fine.mono {k n k' n' : Nat} {d : D} (h : Fine k n d) (hk : k ≤ k') (hn : n ≤ n') : Fine k' n' d := ⟨h.sh, h.lv, h.cl, Nat.le_trans h.dp hk, Nat.le_trans h.wt hn⟩
theorem Fine.none : Fine 0 0 .none := ⟨rfl, rfl, rfl, Nat.le_refl _, Nat.le_refl _⟩
theorem Fine.bool (b : Bool) : Fine 0 0 (.bool b) := ⟨rfl, rfl, rfl, Nat.le_refl _, Nat.le_refl _⟩
theorem log2_lt_of {n k : Nat} (h : n < 2 ^ k) (hk : 0 < k) : n.log2 < k := by
  by_cases h0 : n = 0
  · rw [h0]; simpa using hk
  · exact (Nat.log2_lt h0).mpr h
theorem Fine.int {i : Int} (h : i.natAbs < 10 ^ 75) : Fine 0 260 (.int i) := by
  have h2 : i.natAbs < 2 ^ 256 := Nat.lt_of_lt_of_le h (by decide)
  have l := log2_lt_of h2 (by decide)
  refine ⟨?_, ?_, rfl, Nat.le_refl _, ?_⟩
  · show decide (i.natAbs.log2 < 1920) = true
    exact decide_eq_true (by omega)
  · show decide ((PyData.shown (.int i)).length ≤ 80) = true
    refine decide_eq_true ?_
    have := int_text_length_le10 (k := 75) (by decide) h
    show (Str.ofString (toString i)).length ≤ 80
    rw [ofString_length]
    omega
  · show (if i == 0 then 0 else i.natAbs.log2 + 1) ≤ 260
    split <;> omega
theorem all_of {xs : List D} {k n : Nat} (h : ∀ x ∈ xs, Fine k n x) : PyData.showableAll xs = true ∧ PyData.leavesShortAll 80 xs = true ∧ PyData.canLayAll0 xs = true ∧ PyData.depthAll xs ≤ k ∧ PyData.weightAll xs ≤ xs.length * (n + 1) := by
  induction xs with
  | nil => exact ⟨rfl, rfl, rfl, Nat.zero_le _, Nat.zero_le _⟩
  | cons x xs ih =>
    obtain ⟨i1, i2, i3, i4, i5⟩ := ih fun y m => h y (List.mem_cons_of_mem _ m)
    have hx := h x List.mem_cons_self
    refine ⟨?_, ?_, ?_, ?_, ?_⟩
    · simp only [PyData.showableAll, hx.sh, i1, Bool.and_self]
    · simp only [PyData.leavesShortAll, hx.lv, i2, Bool.and_self]
    · simp only [PyData.canLayAll0, hx.cl, i3, Bool.and_self]
    · simp only [PyData.depthAll]
      have := hx.dp
      omega
    · simp only [PyData.weightAll, List.length_cons]
      have := hx.wt
      have e : (xs.length + 1) * (n + 1) = xs.length * (n + 1) + (n + 1) := by rw [Nat.add_mul]; omega
      omega
theorem Fine.list {xs : List D} {k n : Nat} (h : ∀ x ∈ xs, Fine k n x) : Fine (k + 1) (xs.length * (n + 1)) (.list xs) := by
  obtain ⟨i1, i2, i3, i4, i5⟩ := all_of h
  exact ⟨i1, i2, i3, Nat.succ_le_succ i4, i5⟩
theorem Fine.tuple {xs : List D} {k n : Nat} (h : ∀ x ∈ xs, Fine k n x) : Fine (k + 1) (xs.length * (n + 1)) (.tuple xs) := by
  obtain ⟨i1, i2, i3, i4, i5⟩ := all_of h
  exact ⟨i1, i2, i3, Nat.succ_le_succ i4, i5⟩
theorem Fine.rep {k n : Nat} {d : D} (h : Fine k n d) (hk : k ≤ 60) (hn : n ≤ 180000) : repOk d = true := by
  unfold repOk
  rw [h.sh, PyData.hasDict_of_canLay d h.cl]
  have h1 := h.dp
  have h2 := PyData.shown_le 80 (by decide) d h.lv
  have h3 := h.wt
  have e : lim = 16777216 := by decide
  simp only [Bool.not_false, Bool.and_true, Bool.true_and, Bool.and_eq_true, decide_eq_true_eq]
  exact ⟨by omega, by omega⟩
theorem Fine.shp {k n : Nat} {d : D} (h : Fine k n d) (hk : k ≤ 60) : shp d = true := by
  show (d.canLay0 && decide (d.depth ≤ 64)) = true
  rw [h.cl]
  have := h.dp
  exact decide_eq_true (by omega)
theorem okI_nat (m : Nat) (h : m ≤ 1000000) : okI (m : Int) = true := by
  unfold okI
  have e : (2 : Int) ^ 62 = 4611686018427387904 := by decide
  rw [e]
  exact decide_eq_true ⟨by omega, by omega⟩
theorem lim_le {n : Nat} (h : n ≤ 10000000) : n ≤ lim := Nat.le_trans h (by decide)
theorem q_tup0 {s : Sg} : kTup [] s = .ok (.dat (.tuple [])) s := if_pos (lim_le (by decide : 0 ≤ 10000000))
theorem q_lst0 {s : Sg} : kLst [] s = .ok (.fresh []) s := if_pos (lim_le (by decide : 0 ≤ 10000000))
theorem q_tup1 {x0 : D} {s : Sg} : kTup [x0] s = .ok (.dat (.tuple [x0])) s := if_pos (lim_le (by decide : 1 ≤ 10000000))
theorem q_lst1 {x0 : D} {s : Sg} : kLst [x0] s = .ok (.fresh [x0]) s := if_pos (lim_le (by decide : 1 ≤ 10000000))
theorem q_tup2 {x0 x1 : D} {s : Sg} : kTup [x0, x1] s = .ok (.dat (.tuple [x0, x1])) s := if_pos (lim_le (by decide : 2 ≤ 10000000))
theorem q_lst2 {x0 x1 : D} {s : Sg} : kLst [x0, x1] s = .ok (.fresh [x0, x1]) s := if_pos (lim_le (by decide : 2 ≤ 10000000))
theorem q_tup3 {x0 x1 x2 : D} {s : Sg} : kTup [x0, x1, x2] s = .ok (.dat (.tuple [x0, x1, x2])) s := if_pos (lim_le (by decide : 3 ≤ 10000000))
theorem q_lst3 {x0 x1 x2 : D} {s : Sg} : kLst [x0, x1, x2] s = .ok (.fresh [x0, x1, x2]) s := if_pos (lim_le (by decide : 3 ≤ 10000000))
theorem q_tup4 {x0 x1 x2 x3 : D} {s : Sg} : kTup [x0, x1, x2, x3] s = .ok (.dat (.tuple [x0, x1, x2, x3])) s := if_pos (lim_le (by decide : 4 ≤ 10000000))
theorem q_lst4 {x0 x1 x2 x3 : D} {s : Sg} : kLst [x0, x1, x2, x3] s = .ok (.fresh [x0, x1, x2, x3]) s := if_pos (lim_le (by decide : 4 ≤ 10000000))
theorem q_tup5 {x0 x1 x2 x3 x4 : D} {s : Sg} : kTup [x0, x1, x2, x3, x4] s = .ok (.dat (.tuple [x0, x1, x2, x3, x4])) s := if_pos (lim_le (by decide : 5 ≤ 10000000))
theorem q_lst5 {x0 x1 x2 x3 x4 : D} {s : Sg} : kLst [x0, x1, x2, x3, x4] s = .ok (.fresh [x0, x1, x2, x3, x4]) s := if_pos (lim_le (by decide : 5 ≤ 10000000))
theorem q_tup6 {x0 x1 x2 x3 x4 x5 : D} {s : Sg} : kTup [x0, x1, x2, x3, x4, x5] s = .ok (.dat (.tuple [x0, x1, x2, x3, x4, x5])) s := if_pos (lim_le (by decide : 6 ≤ 10000000))
theorem q_lst6 {x0 x1 x2 x3 x4 x5 : D} {s : Sg} : kLst [x0, x1, x2, x3, x4, x5] s = .ok (.fresh [x0, x1, x2, x3, x4, x5]) s := if_pos (lim_le (by decide : 6 ≤ 10000000))
theorem q_tup7 {x0 x1 x2 x3 x4 x5 x6 : D} {s : Sg} : kTup [x0, x1, x2, x3, x4, x5, x6] s = .ok (.dat (.tuple [x0, x1, x2, x3, x4, x5, x6])) s := if_pos (lim_le (by decide : 7 ≤ 10000000))
theorem q_lst7 {x0 x1 x2 x3 x4 x5 x6 : D} {s : Sg} : kLst [x0, x1, x2, x3, x4, x5, x6] s = .ok (.fresh [x0, x1, x2, x3, x4, x5, x6]) s := if_pos (lim_le (by decide : 7 ≤ 10000000))
theorem q_tup8 {x0 x1 x2 x3 x4 x5 x6 x7 : D} {s : Sg} : kTup [x0, x1, x2, x3, x4, x5, x6, x7] s = .ok (.dat (.tuple [x0, x1, x2, x3, x4, x5, x6, x7])) s := if_pos (lim_le (by decide : 8 ≤ 10000000))
theorem q_lst8 {x0 x1 x2 x3 x4 x5 x6 x7 : D} {s : Sg} : kLst [x0, x1, x2, x3, x4, x5, x6, x7] s = .ok (.fresh [x0, x1, x2, x3, x4, x5, x6, x7]) s := if_pos (lim_le (by decide : 8 ≤ 10000000))
theorem q_tup9 {x0 x1 x2 x3 x4 x5 x6 x7 x8 : D} {s : Sg} : kTup [x0, x1, x2, x3, x4, x5, x6, x7, x8] s = .ok (.dat (.tuple [x0, x1, x2, x3, x4, x5, x6, x7, x8])) s := if_pos (lim_le (by decide : 9 ≤ 10000000))
theorem q_lst9 {x0 x1 x2 x3 x4 x5 x6 x7 x8 : D} {s : Sg} : kLst [x0, x1, x2, x3, x4, x5, x6, x7, x8] s = .ok (.fresh [x0, x1, x2, x3, x4, x5, x6, x7, x8]) s := if_pos (lim_le (by decide : 9 ≤ 10000000))
theorem q_tup10 {x0 x1 x2 x3 x4 x5 x6 x7 x8 x9 : D} {s : Sg} : kTup [x0, x1, x2, x3, x4, x5, x6, x7, x8, x9] s = .ok (.dat (.tuple [x0, x1, x2, x3, x4, x5, x6, x7, x8, x9])) s := if_pos (lim_le (by decide : 10 ≤ 10000000))
theorem q_lst10 {x0 x1 x2 x3 x4 x5 x6 x7 x8 x9 : D} {s : Sg} : kLst [x0, x1, x2, x3, x4, x5, x6, x7, x8, x9] s = .ok (.fresh [x0, x1, x2, x3, x4, x5, x6, x7, x8, x9]) s := if_pos (lim_le (by decide : 10 ≤ 10000000))
theorem q_tup11 {x0 x1 x2 x3 x4 x5 x6 x7 x8 x9 x10 : D} {s : Sg} : kTup [x0, x1, x2, x3, x4, x5, x6, x7, x8, x9, x10] s = .ok (.dat (.tuple [x0, x1, x2, x3, x4, x5, x6, x7, x8, x9, x10])) s := if_pos (lim_le (by decide : 11 ≤ 10000000))
theorem q_lst11 {x0 x1 x2 x3 x4 x5 x6 x7 x8 x9 x10 : D} {s : Sg} : kLst [x0, x1, x2, x3, x4, x5, x6, x7, x8, x9, x10] s = .ok (.fresh [x0, x1, x2, x3, x4, x5, x6, x7, x8, x9, x10]) s := if_pos (lim_le (by decide : 11 ≤ 10000000))
theorem q_tup12 {x0 x1 x2 x3 x4 x5 x6 x7 x8 x9 x10 x11 : D} {s : Sg} : kTup [x0, x1, x2, x3, x4, x5, x6, x7, x8, x9, x10, x11] s = .ok (.dat (.tuple [x0, x1, x2, x3, x4, x5, x6, x7, x8, x9, x10, x11])) s := if_pos (lim_le (by decide : 12 ≤ 10000000))
theorem q_lst12 {x0 x1 x2 x3 x4 x5 x6 x7 x8 x9 x10 x11 : D} {s : Sg} : kLst [x0, x1, x2, x3, x4, x5, x6, x7, x8, x9, x10, x11] s = .ok (.fresh [x0, x1, x2, x3, x4, x5, x6, x7, x8, x9, x10, x11]) s := if_pos (lim_le (by decide : 12 ≤ 10000000))
theorem le_lim0 : (0 ≤ lim) = True := eq_true (lim_le (by decide : 0 ≤ 10000000))
theorem lt_lim0 : (0 < lim) = True := eq_true (lim_le (by decide : 1 ≤ 10000000))
theorem le_lim1 : (1 ≤ lim) = True := eq_true (lim_le (by decide : 1 ≤ 10000000))
theorem lt_lim1 : (1 < lim) = True := eq_true (lim_le (by decide : 2 ≤ 10000000))
theorem le_lim2 : (2 ≤ lim) = True := eq_true (lim_le (by decide : 2 ≤ 10000000))
theorem lt_lim2 : (2 < lim) = True := eq_true (lim_le (by decide : 3 ≤ 10000000))
theorem le_lim3 : (3 ≤ lim) = True := eq_true (lim_le (by decide : 3 ≤ 10000000))
theorem lt_lim3 : (3 < lim) = True := eq_true (lim_le (by decide : 4 ≤ 10000000))
theorem le_lim4 : (4 ≤ lim) = True := eq_true (lim_le (by decide : 4 ≤ 10000000))
theorem lt_lim4 : (4 < lim) = True := eq_true (lim_le (by decide : 5 ≤ 10000000))
theorem le_lim5 : (5 ≤ lim) = True := eq_true (lim_le (by decide : 5 ≤ 10000000))
theorem lt_lim5 : (5 < lim) = True := eq_true (lim_le (by decide : 6 ≤ 10000000))
theorem le_lim6 : (6 ≤ lim) = True := eq_true (lim_le (by decide : 6 ≤ 10000000))
theorem lt_lim6 : (6 < lim) = True := eq_true (lim_le (by decide : 7 ≤ 10000000))
theorem le_lim7 : (7 ≤ lim) = True := eq_true (lim_le (by decide : 7 ≤ 10000000))
theorem lt_lim7 : (7 < lim) = True := eq_true (lim_le (by decide : 8 ≤ 10000000))
theorem le_lim8 : (8 ≤ lim) = True := eq_true (lim_le (by decide : 8 ≤ 10000000))
theorem lt_lim8 : (8 < lim) = True := eq_true (lim_le (by decide : 9 ≤ 10000000))
theorem le_lim9 : (9 ≤ lim) = True := eq_true (lim_le (by decide : 9 ≤ 10000000))
theorem lt_lim9 : (9 < lim) = True := eq_true (lim_le (by decide : 10 ≤ 10000000))
theorem le_lim10 : (10 ≤ lim) = True := eq_true (lim_le (by decide : 10 ≤ 10000000))
theorem lt_lim10 : (10 < lim) = True := eq_true (lim_le (by decide : 11 ≤ 10000000))
theorem le_lim11 : (11 ≤ lim) = True := eq_true (lim_le (by decide : 11 ≤ 10000000))
theorem lt_lim11 : (11 < lim) = True := eq_true (lim_le (by decide : 12 ≤ 10000000))
theorem le_lim12 : (12 ≤ lim) = True := eq_true (lim_le (by decide : 12 ≤ 10000000))
theorem lt_lim12 : (12 < lim) = True := eq_true (lim_le (by decide : 13 ≤ 10000000))
theorem le_lim13 : (13 ≤ lim) = True := eq_true (lim_le (by decide : 13 ≤ 10000000))
theorem lt_lim13 : (13 < lim) = True := eq_true (lim_le (by decide : 14 ≤ 10000000))
theorem le_lim14 : (14 ≤ lim) = True := eq_true (lim_le (by decide : 14 ≤ 10000000))
theorem lt_lim14 : (14 < lim) = True := eq_true (lim_le (by decide : 15 ≤ 10000000))
theorem le_lim15 : (15 ≤ lim) = True := eq_true (lim_le (by decide : 15 ≤ 10000000))
theorem lt_lim15 : (15 < lim) = True := eq_true (lim_le (by decide : 16 ≤ 10000000))
theorem le_lim16 : (16 ≤ lim) = True := eq_true (lim_le (by decide : 16 ≤ 10000000))
theorem lt_lim16 : (16 < lim) = True := eq_true (lim_le (by decide : 17 ≤ 10000000))
theorem le_lim17 : (17 ≤ lim) = True := eq_true (lim_le (by decide : 17 ≤ 10000000))
theorem lt_lim17 : (17 < lim) = True := eq_true (lim_le (by decide : 18 ≤ 10000000))
theorem le_lim18 : (18 ≤ lim) = True := eq_true (lim_le (by decide : 18 ≤ 10000000))
theorem lt_lim18 : (18 < lim) = True := eq_true (lim_le (by decide : 19 ≤ 10000000))
theorem le_lim19 : (19 ≤ lim) = True := eq_true (lim_le (by decide : 19 ≤ 10000000))
theorem lt_lim19 : (19 < lim) = True := eq_true (lim_le (by decide : 20 ≤ 10000000))
theorem le_lim20 : (20 ≤ lim) = True := eq_true (lim_le (by decide : 20 ≤ 10000000))
theorem lt_lim20 : (20 < lim) = True := eq_true (lim_le (by decide : 21 ≤ 10000000))
/-- the feed, so many draws on -/
def Fe (n : Nat) (st : Sto) : Prop := ∃ cells a l, st = [feedOf cells a l n]
theorem draw_feB {C : Cn} {k : Dr} (hk : k.ok = true) {n : Nat} {st : Sto} {many : Int} (h : Fe n st) (hn : n ≤ 1000000) (hm : 0 < many) (hm2 : many.natAbs.log2 < 9000) :
    ∃ (r : Nat) (st' : Sto), kRun C ⟨2, 6, drawB k⟩ [.loc 0, .dat (.int many)] st (some [.loc 0, .dat (.int many)]) = .ok (.dat (.int r)) st' ∧ (r : Int) < many ∧ Fe (n + 1) st' := by
  obtain ⟨cells, a, l, rfl⟩ := h
  obtain ⟨r, a', l', e, h0, h1⟩ := draw_ok (C := C) hk (cells := cells) (a := a) (l := l) (c := n) (many := many) hm hm2 (by omega)
  refine ⟨r.toNat, _, ?_, ?_, ⟨cells, a', l', rfl⟩⟩
  · rw [e, Int.toNat_of_nonneg h0]; rfl
  · rw [Int.toNat_of_nonneg h0]; exact h1
theorem draw_fe {C : Cn} {k : Dr} (hk : k.ok = true) {n : Nat} {st : Sto} {many : Int} (h : Fe n st) (hn : n ≤ 1000000) (hm : 0 < many) (hm2 : many ≤ 1000000) :
    ∃ (r : Nat) (st' : Sto), kRun C ⟨2, 6, drawB k⟩ [.loc 0, .dat (.int many)] st (some [.loc 0, .dat (.int many)]) = .ok (.dat (.int r)) st' ∧ (r : Int) < many ∧ Fe (n + 1) st' := draw_feB hk h hn hm (log2_small (by omega))
theorem ne_nilL {xs : List D} (h : shp (.list xs) = true) : cmpD .ne (.list xs) (.list []) = some (!xs.isEmpty) := by
  show (if shp (.list xs) && shp (.list []) then some (!PyData.eqv (.list xs) (.list [])) else none) = _
  rw [h, if_pos (by rfl)]
  cases xs <;> rfl
def cWl (C : Cn) (c : CE) (b : CSs) (n : Nat) (s : Sg) : O Fl := whileL (fun s => (ev C c s).tst) (exs C b) n s
def kW2 (C : Cn) (c : CE) (b : CSs) (n : Nat) (s : Sg) : Fl → O Fl
  | .next => cWl C c b n s
  | .cont => cWl C c b n s
  | .brk => .ok .next s
  | .ret r => .ok (.ret r) s
def cW2 (C : Cn) (c : CE) (b : CSs) (n : Nat) (fl : Fl) (s : Sg) : O Fl := kW2 C c b n s fl
def kW1 (C : Cn) (c : CE) (b : CSs) (n : Nat) (s : Sg) : Bool → O Fl
  | true => (exs C b s).bind (cW2 C c b n)
  | false => .ok .next s
def cW1 (C : Cn) (c : CE) (b : CSs) (n : Nat) (k : Bool) (s : Sg) : O Fl := kW1 C c b n s k
section
variable {C : Cn} {c : CE} {b : CSs} {n : Nat} {s : Sg}
theorem r_while : ex C (.while c b) s = cWl C c b C.fuel s := rfl
theorem w_succ : cWl C c b (n + 1) s = (ev C c s).tst.bind (cW1 C c b n) := by
  unfold cWl
  rw [whileL]
  exact bindq fun k s1 => by
    cases k with
    | false => rfl
    | true => exact bindq fun fl s2 => by cases fl <;> rfl
theorem q_wT : kW1 C c b n s true = (exs C b s).bind (cW2 C c b n) := rfl
theorem q_wF : kW1 C c b n s false = .ok .next s := rfl
theorem q_wn : kW2 C c b n s .next = cWl C c b n s := rfl
end
/-- more than any number here -/
def BIG : Nat := 2 ^ 4000
theorem big_le {k : Nat} (h : k ≤ 4000) : 2 ^ k ≤ BIG := Nat.pow_le_pow_right (by decide) h
theorem mul_big {i j : Int} (h1 : i.natAbs < BIG) (h2 : j.natAbs < BIG) : mulOk i j = true := by
  unfold mulOk
  have l1 := log2_lt_of (k := 4000) h1 (by decide)
  have l2 := log2_lt_of (k := 4000) h2 (by decide)
  exact decide_eq_true (by omega)
theorem fdiv_big {j : Int} (h0 : 0 < j) (h : j.natAbs < BIG) : 0 < j ∧ j.natAbs.log2 < 9000 := ⟨h0, by have := log2_lt_of (k := 4000) h (by decide); omega⟩
theorem eqv_I {i j : Int} : PyData.eqv (.int i) (.int j) = decide (i = j) := by
  unfold PyData.eqv
  rw [Bool.eq_iff_iff]; simp
theorem ne_I {i j : Int} : cmpD .ne (.int i) (.int j) = some (!decide (i = j)) := by
  rw [← eqv_I]
  show (if shp (.int i) && shp (.int j) then _ else none) = _
  exact if_pos (by rfl)
end Pur
end
section
set_option Elab.async false
set_option linter.all false
set_option maxRecDepth 20000
namespace Pur
open PySem L2
/-! ### rules of version 3 -/
def kKill (env : List EV) (v : Nat) (vs : List Nat) : Option EV → List EV
  | some (.lent _) => killE env vs
  | _ => killE (env.set v .non) vs
section
variable {env : List EV} {v : Nat} {vs : List Nat} {d : D} {xs : List D} {n : Nat}
theorem killE_n : killE env [] = env := rfl
theorem killE_c : killE env (v :: vs) = kKill env v vs env[v]? := by
  rw [killE]
  unfold kKill
  rcases env[v]? with _ | x <;> first | rfl | (cases x <;> rfl)
theorem kKill_d : kKill env v vs (some (.dat d)) = killE (env.set v .non) vs := rfl
theorem kKill_o : kKill env v vs (some (.own xs)) = killE (env.set v .non) vs := rfl
theorem kKill_n : kKill env v vs (some .non) = killE (env.set v .non) vs := rfl
theorem kKill_c : kKill env v vs (some (.loc n)) = killE (env.set v .non) vs := rfl
theorem kKill_l : kKill env v vs (some (.lent xs)) = killE env vs := rfl
end
theorem r_killx {C : Cn} {s : Sg} {vs : List Nat} : ex C (.kill vs) s = .ok .next { s with env := killE s.env vs } := by rw [ex]
theorem lim_eq : lim = 16777216 := by decide
theorem mulOk_of {i j : Int} (h1 : i.natAbs < 2 ^ 400) (h2 : j.natAbs < 2 ^ 400) : mulOk i j = true := by
  unfold mulOk
  have l1 := log2_lt_of (k := 400) h1 (by decide)
  have l2 := log2_lt_of (k := 400) h2 (by decide)
  exact decide_eq_true (by omega)
theorem mulOk_64 {i j : Int} (h1 : -18446744073709551616 < i ∧ i < 18446744073709551616) (h2 : -18446744073709551616 < j ∧ j < 18446744073709551616) : mulOk i j = true :=
  mulOk_of (Nat.lt_of_lt_of_le (show i.natAbs < 18446744073709551616 by omega) (by decide)) (Nat.lt_of_lt_of_le (show j.natAbs < 18446744073709551616 by omega) (by decide))
theorem fdiv_64 {j : Int} (h0 : 0 < j) (h : j < 18446744073709551616) : 0 < j ∧ j.natAbs.log2 < 9000 := by
  refine ⟨h0, ?_⟩
  have l1 := log2_lt_of (k := 64) (Nat.lt_of_lt_of_le (show j.natAbs < 18446744073709551616 by omega) (by decide)) (by decide)
  omega
theorem okI_of {i : Int} (h : -1000000000 ≤ i ∧ i ≤ 1000000000) : okI i = true := by
  unfold okI
  have e : (2 : Int) ^ 62 = 4611686018427387904 := by decide
  rw [e]
  exact decide_eq_true ⟨by omega, by omega⟩
section
variable {s : Sg} {x y : Str} {i j : Int} {xs ys : List D} {d e : D}
theorem q_addS (h : x.length + y.length ≤ lim) : binD .add (.str x) (.str y) = some (.dat (.str (x ++ y))) := if_pos h
theorem q_repL (h : 0 ≤ j ∧ j ≤ 1000000 ∧ xs.length * j.toNat ≤ lim) : binD .mul (.list xs) (.int j) = some (.fresh (repD j.toNat xs)) := if_pos h
theorem q_repT1 : binD .mul (.tuple xs) (.int 1) = some (.dat (.tuple xs)) := rfl
theorem q_repT (h : xs ≠ [] ∧ 2 ≤ j ∧ j ≤ 1000 ∧ xs.length ≤ 1000) : binD .mul (.tuple xs) (.int j) = some (.dat (.tuple (repD j.toNat xs))) := by
  show (if j = 1 then _ else _) = _
  rw [if_neg (by omega), if_pos h]
theorem q_ltT (h : ordB (.tuple xs) (.tuple ys) = true) : cmpD .lt (.tuple xs) (.tuple ys) = some (PySem.W.dataLt (.tuple xs) (.tuple ys)) := if_pos h
theorem q_gtT (h : ordB (.tuple xs) (.tuple ys) = true) : cmpD .gt (.tuple xs) (.tuple ys) = some (PySem.W.dataLt (.tuple ys) (.tuple xs)) := if_pos h
theorem q_revL : revD (.list xs) = some (.fresh xs.reverse) := rfl
theorem q_revT : revD (.tuple xs) = some (.dat (.tuple xs.reverse)) := rfl
theorem q_lenS (h : x.length ≤ lim) : biD .len [.str x] = some (.dat (.int x.length)) := if_pos h
theorem q_addBI {b : Bool} : binD .add (.bool b) (.int j) = some (.dat (.int ((if b = true then 1 else 0) + j))) := rfl
theorem q_subBI {b : Bool} : binD .sub (.bool b) (.int j) = some (.dat (.int ((if b = true then 1 else 0) - j))) := rfl
theorem q_addIB {b : Bool} : binD .add (.int i) (.bool b) = some (.dat (.int (i + if b = true then 1 else 0))) := rfl
theorem q_subIB {b : Bool} : binD .sub (.int i) (.bool b) = some (.dat (.int (i - if b = true then 1 else 0))) := rfl
theorem q_maxT {xs : List D} {n : Int} {ns : List Int} (h : intsOf xs = some ns) : biD .max [.tuple (.int n :: xs)] = some (.dat (.int (ns.foldl max n))) := by
  show (intsOf xs).map _ = _
  rw [h]; rfl
theorem intsOf_map (ns : List Int) : intsOf (ns.map .int) = some ns := by
  induction ns with
  | nil => rfl
  | cons n ns ih => rw [List.map_cons, intsOf, ih]; rfl
theorem q_strB {b : Bool} : biD .str [.bool b] = some (.dat (.str (if b then "True" else "False"))) := rfl
theorem q_isnB {a b : Bool} : cmpD .isn (.bool a) (.bool b) = some (!(a == b)) := rfl
theorem q_intI : biD .int [.int i] = some (.dat (.int i)) := rfl
theorem q_intB {b : Bool} : biD .int [.bool b] = some (.dat (.int (if b then 1 else 0))) := rfl
theorem q_augI : augD .add (.int i) (.int j) = some (.int (i + j)) := rfl
theorem q_augSub : augD .sub (.int i) (.int j) = some (.int (i - j)) := rfl
theorem q_augT (h : xs.length + ys.length ≤ lim) : augD .add (.tuple xs) (.tuple ys) = some (.tuple (xs ++ ys)) := if_pos h
theorem q_slT {lo hi : Option Int} : sliceD (.tuple xs) lo hi = some (.dat (.tuple (cutD xs lo hi))) := rfl
theorem q_slL {lo hi : Option Int} : sliceD (.list xs) lo hi = some (.fresh (cutD xs lo hi)) := rfl
theorem isN_n : isNoneD .none = true := rfl
theorem isN_b {b : Bool} : isNoneD (.bool b) = false := rfl
theorem isN_i : isNoneD (.int i) = false := rfl
theorem isN_s : isNoneD (.str x) = false := rfl
theorem isN_l : isNoneD (.list xs) = false := rfl
theorem isN_t : isNoneD (.tuple xs) = false := rfl
theorem isi_tt : isiD (.tuple xs) .tuple = true := rfl
theorem isi_ll : isiD (.list xs) .list = true := rfl
theorem isi_ii : isiD (.int i) .int = true := rfl
theorem isi_ss : isiD (.str x) .str = true := rfl
theorem isi_ib : isiD (.int i) .bool = false := rfl
theorem isi_bi {b : Bool} : isiD (.bool b) .int = true := rfl
theorem isi_bb {b : Bool} : isiD (.bool b) .bool = true := rfl
theorem tru_s (h : x.length ≤ lim) : tru (.str x) = some (x.length != 0) := if_pos h
theorem q_at4 {a b c e f : D} : L2.atI (a :: b :: c :: e :: f :: xs) 4 = some f := q_atN (xs := a :: b :: c :: e :: f :: xs) (i := 4) (by simp)
theorem q_at5 {a b c e f g : D} : L2.atI (a :: b :: c :: e :: f :: g :: xs) 5 = some g := q_atN (xs := a :: b :: c :: e :: f :: g :: xs) (i := 5) (by simp)
theorem q_at6 {a b c e f g h : D} : L2.atI (a :: b :: c :: e :: f :: g :: h :: xs) 6 = some h := q_atN (xs := a :: b :: c :: e :: f :: g :: h :: xs) (i := 6) (by simp)
theorem q_at7 {a b c e f g h k : D} : L2.atI (a :: b :: c :: e :: f :: g :: h :: k :: xs) 7 = some k := q_atN (xs := a :: b :: c :: e :: f :: g :: h :: k :: xs) (i := 7) (by simp)
theorem q_at8 {a b c e f g h k l : D} : L2.atI (a :: b :: c :: e :: f :: g :: h :: k :: l :: xs) 8 = some l := q_atN (xs := a :: b :: c :: e :: f :: g :: h :: k :: l :: xs) (i := 8) (by simp)
theorem isi_nt {t : Ty} : isiD .none t = false := by cases t <;> rfl
theorem cut_to (n : Nat) : cutD xs none (some (no_index (OfNat.ofNat n : Int))) = xs.take n := by
  show cutD xs none (some ((n : Nat) : Int)) = _
  unfold cutD
  rw [HT.sIx_none, HT.sIx_nat, List.drop_zero, Nat.sub_zero]
  by_cases h : n ≤ xs.length
  · rw [Nat.min_eq_left h]
  · rw [Nat.min_eq_right (by omega), List.take_of_length_le (i := n) (by omega), List.take_of_length_le (Nat.le_refl _)]
theorem cut_toN (n : Nat) : cutD xs none (some ((n : Nat) : Int)) = xs.take n := cut_to n
theorem cut_from (n : Nat) : cutD xs (some (no_index (OfNat.ofNat n : Int))) none = xs.drop n := by
  show cutD xs (some ((n : Nat) : Int)) none = _
  unfold cutD
  rw [HT.sIx_none, HT.sIx_nat]
  by_cases h : n ≤ xs.length
  · rw [Nat.min_eq_left h, List.take_of_length_le (by rw [List.length_drop]; exact Nat.le_refl _)]
  · rw [Nat.min_eq_right (by omega), Nat.sub_self, List.take_zero, List.drop_of_length_le (by omega)]
theorem cut_fromN (n : Nat) : cutD xs (some ((n : Nat) : Int)) none = xs.drop n := cut_from n
theorem cut_btN (n m : Nat) : cutD xs (some ((n : Nat) : Int)) (some ((m : Nat) : Int)) = (xs.drop n).take (m - n) := by
  unfold cutD
  rw [HT.sIx_nat, HT.sIx_nat]
  by_cases h : n ≤ xs.length
  · rw [Nat.min_eq_left h]
    by_cases g : m ≤ xs.length
    · rw [Nat.min_eq_left g]
    · rw [Nat.min_eq_right (by omega), List.take_of_length_le (by rw [List.length_drop]; exact Nat.le_refl _), List.take_of_length_le (by rw [List.length_drop]; omega)]
  · rw [List.drop_of_length_le (by omega), List.drop_of_length_le (by omega), List.take_nil, List.take_nil]
theorem cut_bt (n m : Nat) : cutD xs (some (no_index (OfNat.ofNat n : Int))) (some (no_index (OfNat.ofNat m : Int))) = (xs.drop n).take (m - n) := cut_btN n m
theorem eqv_T : PyData.eqv (.tuple xs) (.tuple ys) = PyData.eqvAll xs ys := by simp [PyData.eqv]
theorem eqv_L : PyData.eqv (.list xs) (.list ys) = PyData.eqvAll xs ys := by simp [PyData.eqv]
theorem eqv_S : PyData.eqv (.str x) (.str y) = decide (x = y) := by
  simp [PyData.eqv]
  rfl
theorem eqvA_n : PyData.eqvAll [] [] = true := by simp [PyData.eqvAll]
theorem eqvA_c : PyData.eqvAll (d :: xs) (e :: ys) = (PyData.eqv d e && PyData.eqvAll xs ys) := by simp [PyData.eqvAll]
theorem eqvA_nc : PyData.eqvAll [] (e :: ys) = false := by simp [PyData.eqvAll]
theorem eqvA_cn : PyData.eqvAll (d :: xs) [] = false := by simp [PyData.eqvAll]
theorem eqv_ints : ∀ {u w : List Int}, PyData.eqvAll (u.map .int) (w.map .int) = decide (u = w)
  | [], [] => by rw [List.map_nil, eqvA_n]; rfl
  | [], _ :: _ => by rw [List.map_nil, List.map_cons, eqvA_nc]; rfl
  | _ :: _, [] => by rw [List.map_nil, List.map_cons, eqvA_cn]; rfl
  | a :: u, b :: w => by
    rw [List.map_cons, List.map_cons, eqvA_c, eqv_ints, eqv_I, Bool.eq_iff_iff]
    simp
theorem lt2 {a b c d : Int} : cmpD .lt (.tuple [.int a, .int b]) (.tuple [.int c, .int d]) = some (decide (a < c ∨ a = c ∧ b < d)) := by
  rw [q_ltT (by rfl), Option.some.injEq, Bool.eq_iff_iff]
  simp only [PySem.W.dataLt, PySem.W.keyToks, PySem.W.keyToksAll, List.cons_append, List.nil_append, PyProof.Rows.lex_cons, PyProof.Rows.itemOrd]
  simp [PyProof.Rows.itemLt, PyProof.Rows.lexLt]
  omega
theorem gt2 {a b c d : Int} : cmpD .gt (.tuple [.int a, .int b]) (.tuple [.int c, .int d]) = some (decide (c < a ∨ c = a ∧ d < b)) := (lt2 (a := c) (b := d) (c := a) (d := b) : _)
theorem compL_map {f : D → Sg → O (Option D)} {s : Sg} {g : D → D} {xs acc : List D} (h : ∀ x ∈ xs, f x s = .ok (some (g x)) s) (hl : acc.length + xs.length ≤ lim) : compL f xs acc s = .ok (acc ++ xs.map g) s := by
  rw [compL_pure (g := fun x => some (g x)) h hl]
  congr 2
  rw [List.filterMap_eq_map']
/-- no dict, so deep at the most -/
def sh (n : Nat) (d : D) : Bool := d.canLay0 && decide (d.depth ≤ n)
theorem shp_sh : shp d = sh 64 d := rfl
theorem sh_n {n : Nat} : sh n .none = true := by simp [sh, PyData.canLay0, PyData.depth]
theorem sh_b {n : Nat} {b : Bool} : sh n (.bool b) = true := by simp [sh, PyData.canLay0, PyData.depth]
theorem sh_i {n : Nat} : sh n (.int i) = true := by simp [sh, PyData.canLay0, PyData.depth]
theorem sh_s {n : Nat} : sh n (.str x) = PyData.strOk x := by simp [sh, PyData.canLay0, PyData.depth]
theorem sh_all {n : Nat} : ∀ {xs : List D}, (PyData.canLayAll0 xs && decide (PyData.depthAll xs ≤ n)) = xs.all (sh n)
  | [] => by simp [PyData.canLayAll0, PyData.depthAll]
  | x :: xs => by
    rw [List.all_cons, ← sh_all]
    rw [Bool.eq_iff_iff]
    simp [PyData.canLayAll0, PyData.depthAll, sh, Nat.max_le]
    exact ⟨fun ⟨⟨a, b⟩, c, d⟩ => ⟨⟨a, c⟩, b, d⟩, fun ⟨⟨a, c⟩, b, d⟩ => ⟨⟨a, b⟩, c, d⟩⟩
theorem sh_T {n : Nat} : sh (n + 1) (.tuple xs) = xs.all (sh n) := by
  rw [← sh_all]
  simp [sh, PyData.canLay0, PyData.depth]
theorem sh_L {n : Nat} : sh (n + 1) (.list xs) = xs.all (sh n) := by
  rw [← sh_all]
  simp [sh, PyData.canLay0, PyData.depth]
theorem sh_mono {m n : Nat} (h : sh m d = true) (hn : m ≤ n) : sh n d = true := by
  unfold sh at h ⊢
  rw [Bool.and_eq_true, decide_eq_true_eq] at h ⊢
  exact ⟨h.1, by omega⟩
theorem sh_ints {n : Nat} {w : List Int} : (w.map PyData.int).all (sh n) = true := by
  rw [List.all_eq_true]
  intro x m
  obtain ⟨i, _, rfl⟩ := List.mem_map.mp m
  exact sh_i
theorem Fine.sh' {k n m : Nat} {d : D} (h : Fine k n d) (hk : k ≤ m) : Pur.sh m d = true := by
  unfold Pur.sh
  rw [h.cl]
  have := h.dp
  exact decide_eq_true (by omega)
/-- == of trees -/
theorem q_eqD (h1 : shp d = true) (h2 : shp e = true) : cmpD .eq d e = some (PyData.eqv d e) := by
  have g : (if shp d && shp e then some (PyData.eqv d e) else none) = some (PyData.eqv d e) := by rw [h1, h2]; rfl
  cases d with
  | str x =>
    cases e with
    | str y =>
      show some (decide (x = y)) = _
      simp [PyData.eqv]
      rfl
    | _ => exact g
  | _ => exact g
theorem q_neD (h1 : shp d = true) (h2 : shp e = true) : cmpD .ne d e = some (!PyData.eqv d e) := by
  have g : (if shp d && shp e then some (!PyData.eqv d e) else none) = some (!PyData.eqv d e) := by rw [h1, h2]; rfl
  cases d with
  | str x =>
    cases e with
    | str y =>
      show some (!decide (x = y)) = _
      simp [PyData.eqv]
      rfl
    | _ => exact g
  | _ => exact g
end
end Pur
end
section
set_option Elab.async false
set_option linter.all false
set_option maxRecDepth 20000
namespace Pur
open PySem L2
/-! ### draws, loops -/
/-- function 0 draws -/
def Dw (ds : Nat → Option Df) : Prop := ∃ dr : Dr, dr.ok = true ∧ ds 0 = some ⟨2, 6, drawB dr⟩
theorem draw_run {ds : Nat → Option Df} (D : Dw ds) {fuel k n : Nat} {st : Sto} {many : Int} (h : Fe n st) (hn : n ≤ 1000000) (hm : 0 < many) (hm2 : many ≤ 1000000) :
    ∃ (r : Nat) (st' : Sto), (r : Int) < many ∧ Fe (n + 1) st' ∧ callN ds fuel (k + 1) 0 [.loc 0, .dat (.int many)] st = .ok (.dat (.int r)) st' := by
  obtain ⟨dr, ok, e⟩ := D
  obtain ⟨r, st', e1, h1, h2⟩ := draw_fe (C := ⟨callN ds fuel k, fuel⟩) ok h hn hm hm2
  exact ⟨r, st', h1, h2, (callN_eq e).trans e1⟩
/-- one draw out of great numbers -/
theorem draw_runB {ds : Nat → Option Df} (D : Dw ds) {fuel k n : Nat} {st : Sto} {many : Int} (h : Fe n st) (hn : n ≤ 1000000) (hm : 0 < many) (hm2 : many.natAbs < 2 ^ 4000) :
    ∃ (r : Nat) (st' : Sto), (r : Int) < many ∧ Fe (n + 1) st' ∧ callN ds fuel (k + 1) 0 [.loc 0, .dat (.int many)] st = .ok (.dat (.int r)) st' := by
  obtain ⟨dr, ok, e⟩ := D
  have l1 := log2_lt_of (k := 4000) hm2 (by decide)
  obtain ⟨r, st', e1, h1, h2⟩ := draw_feB (C := ⟨callN ds fuel k, fuel⟩) ok h hn hm (by omega)
  exact ⟨r, st', h1, h2, (callN_eq e).trans e1⟩
theorem Fe.take {n m : Nat} {st st' : Sto} (h : Fe n st) (h' : Fe m st') : st'.take st.length = st' := by
  obtain ⟨_, _, _, rfl⟩ := h
  obtain ⟨_, _, _, rfl⟩ := h'
  rfl
theorem Fe.len {n : Nat} {st : Sto} (h : Fe n st) : st.length = 1 := by
  obtain ⟨_, _, _, rfl⟩ := h
  rfl
/-- a turn of a loop -/
def cTurnL (f : Sg → O Fl) (_ : Unit) (s : Sg) : O Fl := f s
theorem forL_inv {t : Tg} {f : Sg → O Fl} (I : Nat → Sg → Prop) {xs : List D} {s : Sg} (h0 : I 0 s) (hs : ∀ j x s, xs[j]? = some x → I j s → ∃ s2, (((kSetT s (setT t x s)).bind (cTurnL f)) = .ok .next s2 ∨ ((kSetT s (setT t x s)).bind (cTurnL f)) = .ok .cont s2) ∧ I (j + 1) s2) :
    ∃ s', forL t f xs s = .ok .next s' ∧ I xs.length s' := by
  have key : ∀ (xs' : List D) (i : Nat) (s : Sg), I i s → (∀ j x s, xs'[j]? = some x → I (i + j) s → ∃ s2, (((kSetT s (setT t x s)).bind (cTurnL f)) = .ok .next s2 ∨ ((kSetT s (setT t x s)).bind (cTurnL f)) = .ok .cont s2) ∧ I (i + j + 1) s2) → ∃ s', forL t f xs' s = .ok .next s' ∧ I (i + xs'.length) s' := by
    intro xs'
    induction xs' with
    | nil => intro i s h _; exact ⟨s, rfl, h⟩
    | cons x xs' ih =>
      intro i s h hs
      obtain ⟨s2, e, h2⟩ := hs 0 x s rfl h
      cases q : setT t x s with
      | none =>
        rw [q] at e
        rcases e with e | e <;> cases e
      | some s1 =>
        rw [q] at e
        have e : f s1 = .ok .next s2 ∨ f s1 = .ok .cont s2 := e
        obtain ⟨s', e3, h3⟩ := ih (i + 1) s2 h2 fun j y s hy hi => by
          have : i + 1 + j = i + (j + 1) := by omega
          rw [this] at hi ⊢
          exact hs (j + 1) y s (by simpa using hy) hi
        refine ⟨s', ?_, by rw [List.length_cons]; have : i + (xs'.length + 1) = i + 1 + xs'.length := by omega
                           rw [this]; exact h3⟩
        rw [forL, q]
        dsimp only
        rcases e with e | e
        · rw [e]; exact e3
        · rw [e]; exact e3
  obtain ⟨s', e, h⟩ := key xs 0 s h0 fun j x s hx hi => by
    rw [Nat.zero_add] at hi ⊢
    exact hs j x s hx hi
  exact ⟨s', e, by rw [Nat.zero_add] at h; exact h⟩
/-- a loop by a plain step -/
theorem forL_fold {t : Tg} {f : Sg → O Fl} {α β : Type} (S : β → Sg) (en : α → D) (step : β → α → β) (P : β → Prop) : ∀ {xs : List α} {b : β}, P b → (∀ b x, x ∈ xs → P b → P (step b x) ∧ ((kSetT (S b) (setT t (en x) (S b))).bind (cTurnL f) = .ok .next (S (step b x)) ∨ (kSetT (S b) (setT t (en x) (S b))).bind (cTurnL f) = .ok .cont (S (step b x)))) → forL t f (xs.map en) (S b) = .ok .next (S (xs.foldl step b)) ∧ P (xs.foldl step b)
  | [], b, h, _ => ⟨rfl, h⟩
  | x :: xs, b, h, hs => by
    obtain ⟨h2, e⟩ := hs b x List.mem_cons_self h
    rw [List.map_cons, List.foldl_cons, forL]
    cases q : setT t (en x) (S b) with
    | none =>
      rw [q] at e
      rcases e with e | e <;> cases e
    | some s1 =>
      rw [q] at e
      have e : f s1 = .ok .next (S (step b x)) ∨ f s1 = .ok .cont (S (step b x)) := e
      obtain ⟨e3, h3⟩ := forL_fold S en step P (xs := xs) h2 fun b y m hb => hs b y (List.mem_cons_of_mem _ m) hb
      refine ⟨?_, h3⟩
      dsimp only
      rcases e with e | e
      · rw [e]; exact e3
      · rw [e]; exact e3
def kLoop (t : Tg) (f : Sg → O Fl) (xs : List D) (s : Sg) : Fl → O Fl
  | .next => forL t f xs s
  | .cont => forL t f xs s
  | .brk => .ok .next s
  | .ret r => .ok (.ret r) s
def cLoop (t : Tg) (f : Sg → O Fl) (xs : List D) (fl : Fl) (s : Sg) : O Fl := kLoop t f xs s fl
def cTurnC (t : Tg) (f : Sg → O Fl) (xs : List D) (_ : Unit) (s : Sg) : O Fl := (f s).bind (cLoop t f xs)
section
variable {t : Tg} {f : Sg → O Fl} {x : D} {xs : List D} {s : Sg} {r : RV}
theorem r_forC : forL t f (x :: xs) s = (kSetT s (setT t x s)).bind (cTurnC t f xs) := by
  rw [forL]
  cases setT t x s with
  | none => rfl
  | some s1 => exact bindq fun fl s2 => by cases fl <;> rfl
theorem r_forN : forL t f [] s = .ok .next s := rfl
theorem q_lpn : kLoop t f xs s .next = forL t f xs s := rfl
theorem q_lpc : kLoop t f xs s .cont = forL t f xs s := rfl
theorem q_lpb : kLoop t f xs s .brk = .ok .next s := rfl
theorem q_lpr : kLoop t f xs s (.ret r) = .ok (.ret r) s := rfl
end
theorem upTo_map (n : Nat) (lo : Int) : upTo lo n = (List.range n).map fun (i : Nat) => PyData.int (lo + i) := by
  refine List.ext_getElem? fun i => ?_
  rw [List.getElem?_map]
  by_cases h : i < n
  · obtain ⟨d, hd⟩ : ∃ d, (upTo lo n)[i]? = some d := ⟨_, List.getElem?_eq_getElem (by rw [upTo_len]; exact h)⟩
    obtain ⟨_, e⟩ := upTo_get n lo i d hd
    rw [hd, e, List.getElem?_range h]; rfl
  · rw [List.getElem?_eq_none (by rw [upTo_len]; omega), List.getElem?_eq_none (by rw [List.length_range]; omega)]; rfl
/-- an item of a written list by a drawn place -/
theorem pick_mem {xs : List D} {r : Nat} (h : r < xs.length) : ∃ d, d ∈ xs ∧ L2.atI xs (r : Int) = some d := ⟨_, List.getElem_mem h, q_atN h⟩
end Pur
end
section
set_option Elab.async false
set_option linter.all false
open PySem L2 Pur
namespace Pur
/-! ### what may be shown, row by row -/
structure FineL (k n : Nat) (xs : List D) : Prop where
  sh : PyData.showableAll xs = true
  lv : PyData.leavesShortAll 80 xs = true
  cl : PyData.canLayAll0 xs = true
  dp : PyData.depthAll xs ≤ k
  wt : PyData.weightAll xs ≤ n
theorem FineL.mono {k n k' n' : Nat} {d : List D} (h : FineL k n d) (hk : k ≤ k') (hn : n ≤ n') : FineL k' n' d := ⟨h.sh, h.lv, h.cl, Nat.le_trans h.dp hk, Nat.le_trans h.wt hn⟩
theorem FineL.nil : FineL 0 0 [] := ⟨rfl, rfl, rfl, Nat.zero_le _, Nat.zero_le _⟩
theorem FineL.cons {k m n l : Nat} {d : D} {ds : List D} (h : Fine k m d) (i : FineL n l ds) : FineL (max k n) (m + 1 + l) (d :: ds) := by
  refine ⟨?_, ?_, ?_, ?_, ?_⟩
  · simp only [PyData.showableAll, h.sh, i.sh, Bool.and_self]
  · simp only [PyData.leavesShortAll, h.lv, i.lv, Bool.and_self]
  · simp only [PyData.canLayAll0, h.cl, i.cl, Bool.and_self]
  · simp only [PyData.depthAll]
    have := h.dp
    have := i.dp
    omega
  · simp only [PyData.weightAll]
    have := h.wt
    have := i.wt
    omega
theorem FineL.of {xs : List D} {k n : Nat} (h : ∀ x ∈ xs, Fine k n x) : FineL k (xs.length * (n + 1)) xs := by
  obtain ⟨i1, i2, i3, i4, i5⟩ := all_of h
  exact ⟨i1, i2, i3, i4, i5⟩
theorem FineL.tuple {k n : Nat} {ds : List D} (h : FineL k n ds) : Fine (k + 1) n (.tuple ds) := ⟨h.sh, h.lv, h.cl, Nat.succ_le_succ h.dp, h.wt⟩
theorem FineL.list {k n : Nat} {ds : List D} (h : FineL k n ds) : Fine (k + 1) n (.list ds) := ⟨h.sh, h.lv, h.cl, Nat.succ_le_succ h.dp, h.wt⟩
theorem Fine.int32 {i : Int} (h : i.natAbs < 2 ^ 32) : Fine 0 32 (.int i) := by
  have f := Fine.int (i := i) (by omega)
  refine ⟨f.sh, f.lv, f.cl, f.dp, ?_⟩
  have l := log2_lt_of h (by decide)
  show (if i == 0 then 0 else i.natAbs.log2 + 1) ≤ 32
  split <;> omega
theorem Fine.ints {w : List Int} (h : ∀ i ∈ w, i.natAbs < 2 ^ 32) : Fine 1 (33 * w.length) (.tuple (w.map .int)) := by
  have := FineL.of (xs := w.map PyData.int) (k := 0) (n := 32) fun x m => by
    obtain ⟨i, mi, rfl⟩ := List.mem_map.mp m
    exact Fine.int32 (h i mi)
  rw [List.length_map] at this
  exact this.tuple.mono (Nat.le_refl _) (by omega)
theorem Fine.lit {s : Str} (h : (PyData.showable (.str s) && PyData.leavesShort 80 (.str s) && PyData.canLay0 (.str s) && decide (PyData.weight (.str s) ≤ 32)) = true) : Fine 0 32 (.str s) := by
  simp only [Bool.and_eq_true, decide_eq_true_eq] at h
  exact ⟨h.1.1.1, h.1.1.2, h.1.2, Nat.le_refl _, h.2⟩
end Pur
end
section
set_option Elab.async false
set_option linter.all false
open PySem L2 Pur
namespace Pur
/-! ### things: no dict, bounded numbers -/
mutual
def Okd (B : Nat) : D → Prop
  | .none => True
  | .bool _ => True
  | .int i => i.natAbs ≤ B
  | .str z => ∀ c ∈ z.cps.toList, c < 128
  | .list xs => OkA B xs
  | .tuple xs => OkA B xs
  | .dict _ => False
def OkA (B : Nat) : List D → Prop
  | [] => True
  | x :: xs => Okd B x ∧ OkA B xs
end
theorem okA_iff {B : Nat} : ∀ {xs : List D}, OkA B xs ↔ ∀ x ∈ xs, Okd B x
  | [] => by simp [OkA]
  | x :: xs => by
    rw [OkA, okA_iff (xs := xs)]
    simp
mutual
theorem okd_mono {B C : Nat} (h : B ≤ C) : ∀ {d : D}, Okd B d → Okd C d
  | .none, _ => by simp [Okd]
  | .bool _, _ => by simp [Okd]
  | .int i, q => by simp only [Okd] at q ⊢; omega
  | .str z, q => by simp only [Okd] at q ⊢; exact q
  | .list xs, q => by simp only [Okd] at q ⊢; exact okA_mono h q
  | .tuple xs, q => by simp only [Okd] at q ⊢; exact okA_mono h q
  | .dict _, q => by simp [Okd] at q
theorem okA_mono {B C : Nat} (h : B ≤ C) : ∀ {xs : List D}, OkA B xs → OkA C xs
  | [], _ => by simp [OkA]
  | x :: xs, q => by
    simp only [OkA] at q ⊢
    exact ⟨okd_mono h q.1, okA_mono h q.2⟩
end
mutual
theorem okd_all {B : Nat} (hB : B < 10 ^ 75) : ∀ {d : D}, Okd B d → d.showable = true ∧ d.leavesShort 80 = true ∧ d.canLay0 = true
  | .none, _ => ⟨rfl, rfl, rfl⟩
  | .bool _, _ => ⟨rfl, rfl, rfl⟩
  | .int i, q => by
    simp only [Okd] at q
    have := Fine.int (i := i) (by omega)
    exact ⟨this.sh, this.lv, this.cl⟩
  | .str z, q => by
    simp only [Okd] at q
    refine ⟨rfl, ?_, ?_⟩
    · simp only [PyData.leavesShort, List.all_eq_true, decide_eq_true_eq]
      exact fun c m => Nat.lt_trans (q c m) (by decide)
    · show (z.cps.all (· < 0x110000)) = true
      rw [← Array.all_toList, List.all_eq_true]
      exact fun c m => decide_eq_true (Nat.lt_trans (q c m) (by decide))
  | .list xs, q => by
    simp only [Okd] at q
    have := okA_all hB q
    simpa only [PyData.showable, PyData.leavesShort, PyData.canLay0] using this
  | .tuple xs, q => by
    simp only [Okd] at q
    have := okA_all hB q
    simpa only [PyData.showable, PyData.leavesShort, PyData.canLay0] using this
  | .dict _, q => by simp [Okd] at q
theorem okA_all {B : Nat} (hB : B < 10 ^ 75) : ∀ {xs : List D}, OkA B xs → PyData.showableAll xs = true ∧ PyData.leavesShortAll 80 xs = true ∧ PyData.canLayAll0 xs = true
  | [], _ => ⟨rfl, rfl, rfl⟩
  | x :: xs, q => by
    simp only [OkA] at q
    have h1 := okd_all hB q.1
    have h2 := okA_all hB q.2
    simp only [PyData.showableAll, PyData.leavesShortAll, PyData.canLayAll0, h1, h2, Bool.and_self, and_self]
end
structure Thg (B k n : Nat) (d : D) : Prop where
  ok : Okd B d
  dp : d.depth ≤ k
  wt : d.weight ≤ n
structure ThA (B k n : Nat) (xs : List D) : Prop where
  ok : OkA B xs
  dp : PyData.depthAll xs ≤ k
  wt : PyData.weightAll xs ≤ n
theorem Thg.mono {B C k l m n : Nat} {d : D} (h : Thg B k m d) (hB : B ≤ C) (hk : k ≤ l) (hn : m ≤ n) : Thg C l n d := ⟨okd_mono hB h.ok, Nat.le_trans h.dp hk, Nat.le_trans h.wt hn⟩
theorem ThA.mono {B C k l m n : Nat} {d : List D} (h : ThA B k m d) (hB : B ≤ C) (hk : k ≤ l) (hn : m ≤ n) : ThA C l n d := ⟨okA_mono hB h.ok, Nat.le_trans h.dp hk, Nat.le_trans h.wt hn⟩
theorem Thg.fine {B k n : Nat} {d : D} (h : Thg B k n d) (hB : B < 10 ^ 75) : Fine k n d := by
  obtain ⟨a, b, c⟩ := okd_all hB h.ok
  exact ⟨a, b, c, h.dp, h.wt⟩
theorem ThA.fine {B k n : Nat} {d : List D} (h : ThA B k n d) (hB : B < 10 ^ 75) : FineL k n d := by
  obtain ⟨a, b, c⟩ := okA_all hB h.ok
  exact ⟨a, b, c, h.dp, h.wt⟩
theorem ThA.nil {B : Nat} : ThA B 0 0 [] := ⟨by simp [OkA], Nat.le_refl _, Nat.le_refl _⟩
theorem ThA.cons {B k m l n : Nat} {x : D} {xs : List D} (h : Thg B k m x) (i : ThA B l n xs) : ThA B (max k l) (m + 1 + n) (x :: xs) := by
  refine ⟨by simp only [OkA]; exact ⟨h.ok, i.ok⟩, ?_, ?_⟩
  · simp only [PyData.depthAll]; have := h.dp; have := i.dp; omega
  · simp only [PyData.weightAll]; have := h.wt; have := i.wt; omega
theorem dpA_app : ∀ {xs ys : List D}, PyData.depthAll (xs ++ ys) = max (PyData.depthAll xs) (PyData.depthAll ys)
  | [], ys => by simp [PyData.depthAll]
  | x :: xs, ys => by simp only [List.cons_append, PyData.depthAll, dpA_app (xs := xs)]; omega
theorem wtA_app : ∀ {xs ys : List D}, PyData.weightAll (xs ++ ys) = PyData.weightAll xs + PyData.weightAll ys
  | [], ys => by simp [PyData.weightAll]
  | x :: xs, ys => by simp only [List.cons_append, PyData.weightAll, wtA_app (xs := xs)]; omega
theorem ThA.app {B k m l n : Nat} {xs ys : List D} (h : ThA B k m xs) (i : ThA B l n ys) : ThA B (max k l) (m + n) (xs ++ ys) := by
  refine ⟨okA_iff.mpr fun x mx => (List.mem_append.mp mx).elim (okA_iff.mp h.ok x) (okA_iff.mp i.ok x), ?_, ?_⟩
  · rw [dpA_app]; have := h.dp; have := i.dp; omega
  · rw [wtA_app]; have := h.wt; have := i.wt; omega
theorem ThA.take {B k n : Nat} {xs : List D} (h : ThA B k n xs) (i : Nat) : ThA B k n (xs.take i) := by
  have d := @dpA_app (xs.take i) (xs.drop i)
  have w := @wtA_app (xs.take i) (xs.drop i)
  rw [List.take_append_drop] at d w
  have := h.dp; have := h.wt
  exact ⟨okA_iff.mpr fun x mx => okA_iff.mp h.ok x (List.mem_of_mem_take mx), by omega, by omega⟩
theorem ThA.drop {B k n : Nat} {xs : List D} (h : ThA B k n xs) (i : Nat) : ThA B k n (xs.drop i) := by
  have d := @dpA_app (xs.take i) (xs.drop i)
  have w := @wtA_app (xs.take i) (xs.drop i)
  rw [List.take_append_drop] at d w
  have := h.dp; have := h.wt
  exact ⟨okA_iff.mpr fun x mx => okA_iff.mp h.ok x (List.mem_of_mem_drop mx), by omega, by omega⟩
/-- one out, the rest -/
theorem ThA.get {B k n : Nat} {xs : List D} (h : ThA B k n xs) {i : Nat} (hi : i < xs.length) : ∃ m, Thg B k m xs[i] ∧ ThA B k (n - m - 1) (xs.take i ++ xs.drop (i + 1)) ∧ m + 1 ≤ n := by
  have e : xs = xs.take i ++ xs[i] :: xs.drop (i + 1) := by rw [← List.drop_eq_getElem_cons hi, List.take_append_drop]
  have d := @dpA_app (xs.take i) (xs[i] :: xs.drop (i + 1))
  have w := @wtA_app (xs.take i) (xs[i] :: xs.drop (i + 1))
  rw [← e] at d w
  simp only [PyData.depthAll] at d
  simp only [PyData.weightAll] at w
  have := h.dp; have := h.wt
  refine ⟨(xs[i]).weight, ⟨okA_iff.mp h.ok _ (List.getElem_mem hi), by omega, Nat.le_refl _⟩, ⟨okA_iff.mpr fun x mx => okA_iff.mp h.ok x ?_, by rw [dpA_app]; omega, by rw [wtA_app]; omega⟩, by omega⟩
  rcases List.mem_append.mp mx with m | m
  · exact List.mem_of_mem_take m
  · exact List.mem_of_mem_drop m
theorem wtA_perm {xs ys : List D} (h : xs.Perm ys) : PyData.weightAll xs = PyData.weightAll ys ∧ PyData.depthAll xs = PyData.depthAll ys := by
  induction h with
  | nil => exact ⟨rfl, rfl⟩
  | cons x _ ih => simp only [PyData.weightAll, PyData.depthAll, ih, and_self]
  | swap x y l => simp only [PyData.weightAll, PyData.depthAll]; omega
  | trans _ _ i1 i2 => exact ⟨i1.1.trans i2.1, i1.2.trans i2.2⟩
theorem ThA.rev {B k n : Nat} {xs : List D} (h : ThA B k n xs) : ThA B k n xs.reverse := by
  obtain ⟨a, b⟩ := wtA_perm (List.reverse_perm xs)
  exact ⟨okA_iff.mpr fun x mx => okA_iff.mp h.ok x (List.mem_reverse.mp mx), by rw [b]; exact h.dp, by rw [a]; exact h.wt⟩
theorem ThA.tuple {B k n : Nat} {xs : List D} (h : ThA B k n xs) : Thg B (k + 1) n (.tuple xs) := ⟨by simp only [Okd]; exact h.ok, Nat.succ_le_succ h.dp, h.wt⟩
theorem ThA.list {B k n : Nat} {xs : List D} (h : ThA B k n xs) : Thg B (k + 1) n (.list xs) := ⟨by simp only [Okd]; exact h.ok, Nat.succ_le_succ h.dp, h.wt⟩
theorem Thg.items {B k n : Nat} {xs : List D} (h : Thg B k n (.tuple xs)) : 1 ≤ k ∧ ThA B (k - 1) n xs := by
  have d : PyData.depthAll xs + 1 ≤ k := h.dp
  exact ⟨by omega, ⟨by have := h.ok; simp only [Okd] at this; exact this, by omega, h.wt⟩⟩
theorem len_wt : ∀ {xs : List D}, xs.length ≤ PyData.weightAll xs
  | [] => Nat.le_refl _
  | x :: xs => by simp only [List.length_cons, PyData.weightAll]; have := @len_wt xs; omega
theorem ThA.len {B k n : Nat} {xs : List D} (h : ThA B k n xs) : xs.length ≤ n := Nat.le_trans len_wt h.wt
theorem Thg.none {B : Nat} : Thg B 0 0 .none := ⟨by simp [Okd], Nat.le_refl _, Nat.le_refl _⟩
theorem Thg.bool {B : Nat} {b : Bool} : Thg B 0 0 (.bool b) := ⟨by simp [Okd], Nat.le_refl _, Nat.le_refl _⟩
theorem Thg.int {B w : Nat} {i : Int} (h : i.natAbs ≤ B) (hw : i.natAbs < 2 ^ w) : Thg B 0 w (.int i) := by
  refine ⟨by simp only [Okd]; exact h, Nat.le_refl _, ?_⟩
  show (if i == 0 then 0 else i.natAbs.log2 + 1) ≤ w
  split
  · exact Nat.zero_le _
  · rename_i z
    have z : ¬ i = 0 := by simpa using z
    by_cases w0 : w = 0
    · subst w0; omega
    · exact log2_lt_of hw (by omega)
theorem Thg.str {B : Nat} {z : Str} (h : ∀ c ∈ z.cps.toList, c < 128) : Thg B 0 z.length (.str z) := ⟨by simp only [Okd]; exact h, Nat.le_refl _, Nat.le_refl _⟩
theorem mapIdx_const {α β : Type} (g : α → β) : ∀ l : List α, List.mapIdx (fun _ c => g c) l = l.map g := by
  intro l
  apply List.ext_getElem?
  intro i
  rw [List.getElem?_mapIdx, List.getElem?_map]
theorem upper_list (z : Str) : (Txt.upper z).cps.toList = (z.cps.toList.map Unicode.upperOf).flatten := by
  show (Array.flatten (Array.mapIdx (fun i c => (Unicode.upperOf c).toArray) z.cps)).toList = _
  rw [Array.toList_flatten, Array.toList_mapIdx, mapIdx_const, List.map_map]
  congr 1
theorem up_ok : ∀ c, c < 128 → ((Unicode.upperOf c).all (· < 128) && decide ((Unicode.upperOf c).length = 1)) = true := by
  have h : (List.range 128).all (fun c => (Unicode.upperOf c).all (· < 128) && decide ((Unicode.upperOf c).length = 1)) = true := by decide +kernel
  intro c hc
  exact List.all_eq_true.mp h c (List.mem_range.mpr hc)
theorem upper_asc {z : Str} (h : ∀ c ∈ z.cps.toList, c < 128) : (∀ c ∈ (Txt.upper z).cps.toList, c < 128) ∧ (Txt.upper z).length = z.length := by
  refine ⟨fun c m => ?_, ?_⟩
  · rw [upper_list] at m
    obtain ⟨l, ml, mc⟩ := List.mem_flatten.mp m
    obtain ⟨a, ma, rfl⟩ := List.mem_map.mp ml
    have := up_ok a (h a ma)
    rw [Bool.and_eq_true] at this
    simpa using List.all_eq_true.mp this.1 c mc
  · show (Txt.upper z).cps.size = z.cps.size
    rw [← Array.length_toList, ← Array.length_toList, upper_list]
    generalize z.cps.toList = l at h
    induction l with
    | nil => rfl
    | cons a l ih =>
      have := up_ok a (h a List.mem_cons_self)
      rw [Bool.and_eq_true, decide_eq_true_eq] at this
      rw [List.map_cons, List.flatten_cons, List.length_append, this.2, ih fun c m => h c (List.mem_cons_of_mem _ m), List.length_cons]
      omega
theorem dig_ok : ∀ n, n < 10 → (Nat.digitChar n).toNat < 128 := by decide
theorem core_dig : ∀ (fuel n : Nat) (ds : List Char), (∀ c ∈ ds, c.toNat < 128) → ∀ c ∈ Nat.toDigitsCore 10 fuel n ds, c.toNat < 128
  | 0, n, ds, h => by rw [Nat.toDigitsCore]; exact h
  | fuel + 1, n, ds, h => by
    have hd : ∀ c ∈ Nat.digitChar (n % 10) :: ds, c.toNat < 128 := fun c m => by
      rcases List.mem_cons.mp m with rfl | m
      · exact dig_ok _ (Nat.mod_lt _ (by decide))
      · exact h c m
    rw [Nat.toDigitsCore]
    split
    · exact hd
    · exact core_dig fuel _ _ hd
theorem str_int_asc (i : Int) : ∀ c ∈ (Str.ofString (toString i)).cps.toList, c < 128 := by
  have key : ∀ (s : String), (∀ c ∈ s.toList, c.toNat < 128) → ∀ c ∈ (Str.ofString s).cps.toList, c < 128 := fun s h c m => by
    have m : c ∈ s.toList.map Char.toNat := by
      have e : (Str.ofString s).cps.toList = s.toList.map Char.toNat := by
        exact PyProof.Rows.signs_ofString s
      rw [e] at m; exact m
    obtain ⟨d, md, rfl⟩ := List.mem_map.mp m
    exact h d md
  have nat : ∀ (n : Nat), ∀ c ∈ (Nat.repr n).toList, c.toNat < 128 := fun n c m => by
    have e : (Nat.repr n).toList = Nat.toDigits 10 n := by simp [Nat.repr]
    rw [e] at m
    exact core_dig _ _ _ (by simp) c m
  refine key _ ?_
  cases i with
  | ofNat n => exact nat n
  | negSucc n =>
    intro c m
    have m : c ∈ ("-" ++ Nat.repr (n + 1)).toList := m
    rw [String.toList_append] at m
    rcases List.mem_append.mp m with m | m
    · have : c = '-' := by simpa using m
      rw [this]; decide
    · exact nat _ c m
theorem str_int_len {i : Int} {k : Nat} (hk : 0 < k) (h : i.natAbs < 10 ^ k) : (Str.ofString (toString i)).length ≤ k + 1 := by
  rw [ofString_length]
  exact int_text_length_le10 hk h
theorem cat_asc {x y : Str} (h : ∀ c ∈ x.cps.toList, c < 128) (h2 : ∀ c ∈ y.cps.toList, c < 128) : ∀ c ∈ (x ++ y).cps.toList, c < 128 := fun c m => by
  have e : (x ++ y).cps.toList = x.cps.toList ++ y.cps.toList := by
    show (x.cps ++ y.cps).toList = _
    rw [Array.toList_append]
  rw [e] at m
  exact (List.mem_append.mp m).elim (h c) (h2 c)
theorem cat_len {x y : Str} : (x ++ y).length = x.length + y.length := by
  show (x.cps ++ y.cps).size = _
  rw [Array.size_append]; rfl
theorem cutS_asc {z : Str} {lo hi : Option Int} (h : ∀ c ∈ z.cps.toList, c < 128) : ∀ c ∈ (L2.cutS z lo hi).cps.toList, c < 128 := fun c m => h c (List.mem_of_mem_drop (List.mem_of_mem_take m))
theorem cutS_len {z : Str} {lo hi : Option Int} : (L2.cutS z lo hi).length ≤ z.length := by
  show (L2.cutS z lo hi).cps.size ≤ z.cps.size
  rw [← Array.length_toList, ← Array.length_toList]
  show (List.take _ (List.drop _ _)).length ≤ _
  rw [List.length_take, List.length_drop]
  omega
end Pur
end
section
set_option Elab.async false
set_option linter.all false
open PySem L2 Pur
namespace Pur
/-! ### a < b < c -/
def kCh4 (p : COp) (s : Sg) : Option D → Option D → O RV
  | some y, some z => .of ((cmpD p y z).map fun k => .dat (.bool k)) s
  | _, _ => .stuck
def cCh3 (p : COp) (q u : RV) (s : Sg) : O RV := kCh4 p s (s.res q) (s.res u)
def kCh2 (C : Cn) (p : COp) (c : CE) (q : RV) (s : Sg) : Option Bool → O RV
  | some true => (ev C c s).bind (cCh3 p q)
  | some false => .ok (.dat (.bool false)) s
  | none => .stuck
def kCh1 (C : Cn) (o p : COp) (c : CE) (q : RV) (s : Sg) : Option D → Option D → O RV
  | some x, some y => kCh2 C p c q s (cmpD o x y)
  | _, _ => .stuck
def cCh2 (C : Cn) (o p : COp) (c : CE) (r q : RV) (s : Sg) : O RV := kCh1 C o p c q s (s.res r) (s.res q)
def cCh1 (C : Cn) (o p : COp) (b c : CE) (r : RV) (s : Sg) : O RV := (ev C b s).bind (cCh2 C o p c r)
theorem r_chain (C : Cn) (s : Sg) (o p : COp) (a b c : CE) : ev C (.chain o p a b c) s = (ev C a s).bind (cCh1 C o p b c) := by
  rw [ev]
  refine bindq fun r s1 => bindq fun q s2 => ?_
  unfold cCh2 kCh1
  cases s2.res r with
  | none => rfl
  | some x =>
    cases s2.res q with
    | none => rfl
    | some y =>
      dsimp only
      unfold kCh2
      cases cmpD o x y with
      | none => rfl
      | some k =>
        cases k with
        | false => rfl
        | true =>
          dsimp only
          refine bindq fun u s3 => ?_
          unfold cCh3 kCh4
          cases s3.res q <;> cases s3.res u <;> rfl
theorem q_ch1 {C : Cn} {o p : COp} {c : CE} {q : RV} {s : Sg} {x y : D} : kCh1 C o p c q s (some x) (some y) = kCh2 C p c q s (cmpD o x y) := rfl
theorem q_ch2T {C : Cn} {p : COp} {c : CE} {q : RV} {s : Sg} : kCh2 C p c q s (some true) = (ev C c s).bind (cCh3 p q) := rfl
theorem q_ch2F {C : Cn} {p : COp} {c : CE} {q : RV} {s : Sg} : kCh2 C p c q s (some false) = .ok (.dat (.bool false)) s := rfl
theorem q_ch4 {p : COp} {s : Sg} {y z : D} : kCh4 p s (some y) (some z) = .of ((cmpD p y z).map fun k => .dat (.bool k)) s := rfl
end Pur
end
section
set_option Elab.async false
set_option linter.all false
open PySem L2 Pur
namespace Pur
/-! ### things that lie there whole, looked at by the kernel -/
mutual
def okdB (B : Nat) : D → Bool
  | .none => true
  | .bool _ => true
  | .int i => decide (i.natAbs ≤ B)
  | .str z => z.cps.toList.all (fun c => decide (c < 128))
  | .list xs => okAB B xs
  | .tuple xs => okAB B xs
  | .dict _ => false
def okAB (B : Nat) : List D → Bool
  | [] => true
  | x :: xs => okdB B x && okAB B xs
end
mutual
theorem okdB_ok {B : Nat} : ∀ {d : D}, okdB B d = true → Okd B d
  | .none, _ => by simp [Okd]
  | .bool _, _ => by simp [Okd]
  | .int i, q => by simp only [okdB, decide_eq_true_eq] at q; simp only [Okd]; exact q
  | .str z, q => by simp only [okdB, List.all_eq_true, decide_eq_true_eq] at q; simp only [Okd]; exact q
  | .list xs, q => by simp only [okdB] at q; simp only [Okd]; exact okAB_ok q
  | .tuple xs, q => by simp only [okdB] at q; simp only [Okd]; exact okAB_ok q
  | .dict _, q => by simp [okdB] at q
theorem okAB_ok {B : Nat} : ∀ {xs : List D}, okAB B xs = true → OkA B xs
  | [], _ => by simp [OkA]
  | x :: xs, q => by
    simp only [okAB, Bool.and_eq_true] at q
    simp only [OkA]
    exact ⟨okdB_ok q.1, okAB_ok q.2⟩
end
def thgB (B k n : Nat) (d : D) : Bool := okdB B d && (Nat.ble d.depth k && Nat.ble d.weight n)
def thAB (B k n : Nat) (xs : List D) : Bool := okAB B xs && (Nat.ble (PyData.depthAll xs) k && Nat.ble (PyData.weightAll xs) n)
theorem Thg.lay {B k n : Nat} {d : D} (h : thgB B k n d = true) : Thg B k n d := by
  simp only [thgB, Bool.and_eq_true, Nat.ble_eq] at h
  exact ⟨okdB_ok h.1, h.2.1, h.2.2⟩
theorem ThA.lay {B k n : Nat} {xs : List D} (h : thAB B k n xs = true) : ThA B k n xs := by
  simp only [thAB, Bool.and_eq_true, Nat.ble_eq] at h
  exact ⟨okAB_ok h.1, h.2.1, h.2.2⟩
theorem ThA.all {B k n : Nat} {xs : List D} {x : D} (h : ThA B k n xs) (m : x ∈ xs) : Thg B k n x := by
  obtain ⟨i, hi, rfl⟩ := List.mem_iff_getElem.mp m
  obtain ⟨w, hg, _, hw⟩ := h.get hi
  exact hg.mono (Nat.le_refl _) (Nat.le_refl _) (by omega)
theorem layTest : ThA (10 ^ 60) 5 100 [.int 1, .str "ab", .tuple [.list [.int (-7), .none]]] := ThA.lay (by decide +kernel)
end Pur
end
section
set_option Elab.async false
set_option linter.all false
set_option maxRecDepth 20000
open PySem L2 Pur
namespace Joi
local macro_rules | `(tactic| push_cast [$xs,*]) => `(tactic| simp (implicitDefEqProofs := false) (disch := (first | assumption | exact ⟨rfl, by decide⟩ | exact okI_of (by omega) | exact mulOk_64 (by omega) (by omega) | exact fdiv_64 (by omega) (by omega) | (simp only [lim_eq, List.length_append, List.length_map, List.length_cons, List.length_nil, List.length_reverse, List.length_take, List.length_drop, List.length_replicate, List.length_range, upTo_len, enumD_len, zipD_len]; omega) | omega | (simp only [shp_sh, sh_n, sh_b, sh_i, sh_s, sh_T, sh_L, sh_ints, List.all_cons, List.all_nil, List.all_append, Bool.and_self, Bool.and_true]; first | done | decide))) only [cTst, cNeg, cNt, cAnd, cOr, cBin2, cBin, cCmp2, cCmp, cIte, cTup, cLst, cSub2, cSub, cSl3, cSl2, cSl, cCall2, cCall, cBi, cIsi, cDict, cComp, cTs, cO, cSeq, cRange, cEnum, cDs3, cDs2, cDs, cKs3, cKs2, cKs, cRs, cPs2, cPs, cNext, cAsg, cPar, cSetRs, cPut4, cPut3, cPut2, cPut, cRet, cIf, cSeqS, cFor, cSetSlot, cApp2, cApp, cExt, cComp7, r_tst, r_neg, r_nt, r_and, r_or, r_bin, r_cmp, r_ite, r_tup, r_lst, r_sub, r_slice, r_call, r_bi, r_isi, r_dict, r_comp, r_Ts, r_yes, r_seq, r_range, r_enum, r_Ds, r_Ks, r_Rs, r_Ps, r_seqS, r_asg, r_par, r_put, r_expr, r_ret, r_ifs, r_for, r_setRs, r_setSlot, r_app, r_ext, r_kcomp, q_var_d, q_var_o, q_var_l, q_var_n, q_tst, q_neg, q_andT, q_andF, q_orT, q_orF, q_bin, q_cmp, q_of, q_subL, q_look, q_subD, q_subF, q_subS, q_sub2, q_sl, q_call, q_up, q_bi, q_isi, q_iteT, q_iteF, q_tsT, q_tsF, q_seq, q_lendD, q_lendF, q_lendS, q_enumT, q_enumL, q_o, q_app, q_ext, q_esc_o, q_escD_o, q_res_o, q_res_l, q_res_d, q_nx, q_rt, q_bk, q_ct, q_ifT, q_ifF, q_put, q_putS, q_putOk, q_P_f, q_P_d, q_P_l, q_P_s, q_set, q_setT, q_setS, q_setTs, q_fr_d, q_fr_o, q_fr_n, q_fr_l, q_lo_d, q_lo_n, q_lo_l, q_tru_b, q_tru_i, q_tru_t, q_tru_l, q_tru_n, q_add, q_sub, q_mul, q_fdiv, q_mod, q_pow, q_addL, q_addT, q_lt, q_le, q_gt, q_ge, q_eqS, q_neS, q_eqI, q_isN, q_isnN, q_isB, q_tsub, q_lsub, q_lenL, q_lenT, q_tupL, q_tupT, q_lstL, q_lstT, q_repr, q_max, q_min, q_kI, q_kS, q_sqL, q_sqT, q_evD, q_evL, q_argN, q_argC, q_arg, q_argD, q_at0, q_at1, q_at2, q_at3, q_run, q_finD, q_finF, q_finN, q_finS, q_finO, q_finL, evTs_nil, evO_no, evDs_nil, evKs_nil, evRs_nil, evPs_nil, exs_nil, ex_retN, ex_pass, ex_brk, ex_cont, ev_var, ev_lit, ev_glob, ev_app, ev_ext, esc_dat, esc_fresh, esc_loc, esc_slot, escD_dat, escD_fresh, escD_slot, res_dat, res_fresh, res_slot, setR_dat, setR_fresh, setR_loc, setR_tup, setT_nm, setT_tup, setTs_nil, setTs_cons, setRs_nil2, freeAt_eq, looseAt_eq, O.bind_ok, List.mapM_cons, List.mapM_nil, Option.bind_eq_bind, Option.bind_some, Option.pure_def, Option.map_some, List.getElem?_cons_succ, List.getElem?_cons_zero, List.length_cons, List.length_nil, Nat.reduceAdd, Nat.reduceSub, Nat.le_refl, and_self, List.replicate_succ, List.replicate_zero, List.append_nil, List.cons_append, List.nil_append, List.set_cons_succ, List.set_cons_zero, List.all_cons, List.all_nil, Bool.and_true, Bool.true_and, Bool.not_true, Bool.not_false, Nat.sub_self, List.append_assoc, RV.weak, r_turn, q_turn, q_turnT, q_turnF, q_wipe0, q_wipe1, q_back0, q_back1, q_lend0, q_unlend0, q_lend1, q_lend2, q_unlend1, q_unlend2, q_un, q_lends_o, q_lends_d, q_lends_l, cTurn, cTurn3, cTurn4, List.getD_cons_succ, List.getD_cons_zero, Option.map_none, q_tup0, q_lst0, q_tup1, q_lst1, q_tup2, q_lst2, q_tup3, q_lst3, q_tup4, q_lst4, q_tup5, q_lst5, q_tup6, q_lst6, q_tup7, q_lst7, q_tup8, q_lst8, q_tup9, q_lst9, q_tup10, q_lst10, q_tup11, q_lst11, q_tup12, q_lst12, le_lim0, lt_lim0, le_lim1, lt_lim1, le_lim2, lt_lim2, le_lim3, lt_lim3, le_lim4, lt_lim4, le_lim5, lt_lim5, le_lim6, lt_lim6, le_lim7, lt_lim7, le_lim8, lt_lim8, le_lim9, lt_lim9, le_lim10, lt_lim10, le_lim11, lt_lim11, le_lim12, lt_lim12, le_lim13, lt_lim13, le_lim14, lt_lim14, le_lim15, lt_lim15, le_lim16, lt_lim16, le_lim17, lt_lim17, le_lim18, lt_lim18, le_lim19, lt_lim19, le_lim20, lt_lim20, decide_true, decide_false, eq_self, r_while, cW1, cW2, q_wT, q_wF, q_wn, ne_I, cLoop, cTurnC, r_forC, r_forN, q_lpn, q_lpc, q_lpb, q_lpr, q_eqD, q_neD, q_at4, q_at5, q_at6, q_at7, q_at8, lt2, gt2, cut_to, cut_from, cut_bt, isi_nt, eqv_T, eqv_L, eqv_S, eqvA_n, eqvA_c, eqvA_nc, eqvA_cn, eqv_I, List.take_succ_cons, List.take_zero, List.drop_succ_cons, List.drop_zero, isN_n, isN_b, isN_i, isN_s, isN_l, isN_t, isi_tt, isi_ll, isi_ii, isi_ss, isi_ib, isi_bi, isi_bb, tru_s, cRev, cMth2, cMth, cZip4, cZip3, cZip2, cZip, cPuti2, cPuti1, cPuti, cAug, r_rev, r_mth, r_zip, r_puti, r_killx, Int.reduceAdd, Int.reduceSub, Int.reduceMul, Int.reducePow, Int.reduceNeg, Int.reduceToNat, Int.reduceLT, Int.reduceLE, Int.reduceGT, Int.reduceGE, Int.reduceEq, Int.reduceDiv, Int.reduceMod, Nat.reduceMul, Nat.reduceLT, Nat.reduceLeDiff, Nat.reduceEqDiff, Int.toNat_natCast, r_aug, q_rng, q_rev, q_mth, q_zipL, q_zipT, q_puti1, q_puti2, q_puti3, q_puti4, q_aug, q_aug2, q_aug3, q_enumS, killE_n, killE_c, kKill_d, kKill_o, kKill_l, kKill_n, kKill_c, q_addS, q_ltT, q_gtT, q_revL, q_revT, q_lenS, q_intI, q_intB, q_augI, q_augSub, q_augT, q_slT, q_slL, List.take_length, not_true_eq_false, not_false_eq_true, Bool.false_and, Bool.and_false, Bool.or_true, Bool.true_or, Bool.or_false, Bool.false_or, ite_true, ite_false, if_true, if_false, cond_true, cond_false, Bool.false_eq_true, upTo_len, q_repL, q_repT1, q_repT, Option.some.injEq, Bool.not_eq_true, Bool.decide_eq_true, q_range1, q_range2, $xs,*])
/-- going_on (0 joining) -/
abbrev f3_0 : CSs := .cons (.ret (.ite (.and (.cmp .isn (.var 0) (.lit .none)) (.cmp .gt (.sub (.var 0) (.lit (.int 3))) (.lit (.int 0)))) (.sub (.var 0) (.lit (.int 1))) (.lit .none))) .nil
abbrev f3 : Df := ⟨1, 1, f3_0⟩
/-- does_go_on (0 joining, 1 piece, 2 epoch, 3 number, 4 parts, 5 later, 6 words) -/
abbrev f4_0 : CSs := .cons (.ret (.cmp .eq (.tup (.cons (.sub (.var 1) (.lit (.int 0))) (.cons (.sub (.var 1) (.lit (.int 2))) (.cons (.sub (.var 1) (.lit (.int 4))) (.cons (.sub (.var 1) (.lit (.int 3))) .nil))))) (.tup (.cons (.var 2) (.cons (.var 3) (.cons (.var 4) (.cons (.var 5) .nil))))))) .nil
abbrev f4_1 : CSs := .cons (.asg (.tup (.cons (.nm 2) (.cons (.nm 3) (.cons (.nm 4) (.cons (.nm 5) (.cons (.nm 6) .nil)))))) (.var 0)) f4_0
abbrev f4_2 : CSs := .cons (.ret (.lit (.bool false))) .nil
abbrev f4_3 : CSs := .cons (.ifs (.cmp .is (.call 3 (.cons (.var 0) .nil) .nil [.inl 0]) (.lit .none)) f4_2 .nil) f4_1
abbrev f4 : Df := ⟨2, 7, f4_3⟩
/-- does_begin (0 joining, 1 piece) -/
abbrev f5_0 : CSs := .cons (.ret (.and (.cmp .eq (.sub (.var 1) (.lit (.int 3))) (.lit (.int 0))) (.or (.cmp .is (.var 0) (.lit .none)) (.cmp .gt (.tup (.cons (.sub (.var 1) (.lit (.int 0))) (.cons (.sub (.var 1) (.lit (.int 2))) .nil))) (.slice (.var 0) .no (.yes (.lit (.int 2)))))))) .nil
abbrev f5 : Df := ⟨2, 2, f5_0⟩
/-- sum_due (0 piece, 1 epoch, 2 talk, 3 number, 4 part, 5 parts, 6 words, 7 given, 8 row, 9 k, 10 one) -/
abbrev f1_0 : CSs := .cons (.ret (.bin .mod (.bi .sum (.cons (.comp (.tup (.cons (.nm 9) (.cons (.nm 10) .nil))) [9, 10] (.enum 1 (.var 8)) .nil (.bin .mul (.var 9) (.var 10))) .nil)) (.glob "SUMS" (.int 10007)))) .nil
abbrev f1_1 : CSs := .cons (.asg (.nm 8) (.bin .add (.tup (.cons (.var 1) (.cons (.var 3) (.cons (.var 4) (.cons (.var 5) .nil))))) (.var 6))) f1_0
abbrev f1_2 : CSs := .cons (.asg (.tup (.cons (.nm 1) (.cons (.nm 2) (.cons (.nm 3) (.cons (.nm 4) (.cons (.nm 5) (.cons (.nm 6) (.cons (.nm 7) .nil)))))))) (.var 0)) f1_1
abbrev f1 : Df := ⟨1, 11, f1_2⟩
/-- is_right (0 piece) -/
abbrev f2_0 : CSs := .cons (.ret (.cmp .eq (.sub (.var 0) (.lit (.int 6))) (.call 1 (.cons (.var 0) .nil) .nil [.inl 0]))) .nil
abbrev f2 : Df := ⟨1, 1, f2_0⟩
/-- with_part (0 piece, 1 words, 2 lost, 3 epoch, 4 talk, 5 number, 6 part, 7 parts, 8 own, 9 given) -/
abbrev f6_0 : CSs := .cons (.ret (.tup (.cons (.tup (.cons (.var 3) (.cons (.var 5) (.cons (.var 7) (.cons (.bin .add (.var 6) (.lit (.int 1))) (.cons (.var 1) .nil)))))) (.cons (.ite (.cmp .eq (.var 6) (.lit (.int 0))) (.lit (.str "begun")) (.lit (.str "on"))) (.cons (.var 2) (.cons (.lit .none) .nil)))))) .nil
abbrev f6_1 : CSs := .cons (.ret (.tup (.cons (.tup (.cons (.var 3) (.cons (.var 5) (.cons (.var 7) (.cons (.lit (.int 0)) (.cons (.tup .nil) .nil)))))) (.cons (.lit (.str "whole")) (.cons (.var 2) (.cons (.tup (.cons (.var 4) (.cons (.var 5) (.cons (.var 1) .nil)))) .nil)))))) .nil
abbrev f6_2 : CSs := .cons (.ifs (.cmp .eq (.bin .add (.var 6) (.lit (.int 1))) (.var 7)) f6_1 .nil) f6_0
abbrev f6_3 : CSs := .cons (.aug 1 .add (.var 8)) f6_2
abbrev f6_4 : CSs := .cons (.asg (.tup (.cons (.nm 3) (.cons (.nm 4) (.cons (.nm 5) (.cons (.nm 6) (.cons (.nm 7) (.cons (.nm 8) (.cons (.nm 9) .nil)))))))) (.var 0)) f6_3
abbrev f6 : Df := ⟨3, 10, f6_4⟩
/-- came_of (0 joining, 1 piece, 2 is_elder) -/
abbrev f7_0 : CSs := .cons (.ret (.tup (.cons (.var 0) (.cons (.ite (.var 2) (.lit (.str "elder")) (.lit (.str "cut"))) (.cons (.lit .none) (.cons (.lit .none) .nil)))))) .nil
abbrev f7_1 : CSs := .cons (.asg (.nm 2) (.and (.cmp .isn (.var 0) (.lit .none)) (.cmp .lt (.tup (.cons (.sub (.var 1) (.lit (.int 0))) (.cons (.sub (.var 1) (.lit (.int 2))) .nil))) (.slice (.var 0) .no (.yes (.lit (.int 2))))))) f7_0
abbrev f7_2 : CSs := .cons (.ret (.call 6 (.cons (.var 1) (.cons (.tup .nil) (.cons (.call 3 (.cons (.var 0) .nil) .nil [.inl 0]) .nil))) .nil [.inl 0, .inl 1, .inl 2])) .nil
abbrev f7_3 : CSs := .cons (.ifs (.call 5 (.cons (.var 0) (.cons (.var 1) .nil)) .nil [.inl 0, .inl 1]) f7_2 .nil) f7_1
abbrev f7_4 : CSs := .cons (.ret (.call 6 (.cons (.var 1) (.cons (.sub (.var 0) (.lit (.int 4))) (.cons (.lit .none) .nil))) .nil [.inl 0, .inl 1, .inl 2])) .nil
abbrev f7_5 : CSs := .cons (.ifs (.call 4 (.cons (.var 0) (.cons (.var 1) .nil)) .nil [.inl 0, .inl 1]) f7_4 .nil) f7_3
abbrev f7_6 : CSs := .cons (.ret (.tup (.cons (.var 0) (.cons (.lit (.str "sum")) (.cons (.lit .none) (.cons (.lit .none) .nil)))))) .nil
abbrev f7_7 : CSs := .cons (.ifs (.nt (.call 2 (.cons (.var 1) .nil) .nil [.inl 0])) f7_6 .nil) f7_5
abbrev f7 : Df := ⟨2, 3, f7_7⟩
/-- a piece -/
structure Pc where
  e : Int
  t : D
  n : Int
  p : Int
  q : Int
  w : List Int
  s : Int
abbrev wd (w : List Int) : D := .tuple (w.map .int)
abbrev Pc.d (x : Pc) : D := .tuple [.int x.e, x.t, .int x.n, .int x.p, .int x.q, wd x.w, .int x.s]
/-- a joining that is begun -/
structure Jn where
  e : Int
  n : Int
  q : Int
  l : Int
  w : List Int
abbrev Jn.d (j : Jn) : D := .tuple [.int j.e, .int j.n, .int j.q, .int j.l, wd j.w]
abbrev jd : Option Jn → D
  | none => .none
  | some j => j.d
def going : Option Jn → D
  | none => .none
  | some j => if 0 < j.l then .int j.n else .none
theorem going_run {ds : Nat → Option Df} (h : ds 3 = some f3) {fuel k : Nat} {st : Sto} (j : Option Jn) : callN ds fuel (k + 1) 3 [.dat (jd j)] st = .ok (.dat (going j)) st := by
  cases j with
  | none =>
    rw [callN_eq h]
    push_cast [going, jd]
  | some j =>
    rw [callN_eq h]
    by_cases h1 : 0 < j.l
    · push_cast [going, h1, jd]
    · push_cast [going, h1, jd]
/-- the sum of a row, k times the k-th -/
def sumK : Int → List Int → Int
  | _, [] => 0
  | k, x :: xs => k * x + sumK (k + 1) xs
def due (x : Pc) : Int := sumK 1 (x.e :: x.n :: x.p :: x.q :: x.w) % 10007
def small (i : Int) : Prop := -1000000000000 < i ∧ i < 1000000000000
structure Pc.ok (x : Pc) : Prop where
  e : small x.e
  n : small x.n
  p : small x.p
  q : small x.q
  w : ∀ i ∈ x.w, small i
  l : x.w.length ≤ 1000
def kd (k : Int) : List Int → List D
  | [] => []
  | x :: xs => .int (k * x) :: kd (k + 1) xs
theorem intsOf_kd : ∀ (xs : List Int) (k : Int), ∃ ns, intsOf (kd k xs) = some ns ∧ ns.sum = sumK k xs
  | [], _ => ⟨[], rfl, rfl⟩
  | x :: xs, k => by
    obtain ⟨ns, h1, h2⟩ := intsOf_kd xs (k + 1)
    exact ⟨(k * x) :: ns, by rw [kd, intsOf, h1]; rfl, by rw [List.sum_cons, h2, sumK]⟩
theorem kd_loop {f : D → Sg → O (Option D)} {s : Sg} : ∀ {xs : List Int} {k : Int} {acc : List D}, (∀ x ∈ xs, ∀ j : Int, k ≤ j → j ≤ k + xs.length → f (.tuple [.int j, .int x]) s = .ok (some (.int (j * x))) s) → acc.length + xs.length ≤ lim → compL f (enumD k (xs.map .int)) acc s = .ok (acc ++ kd k xs) s
  | [], k, acc, _, _ => by rw [List.map_nil, enumD, compL, kd, List.append_nil]
  | x :: xs, k, acc, h, hl => by
    rw [List.length_cons] at hl
    rw [List.map_cons, enumD, compL, h x List.mem_cons_self k (by omega) (by omega)]
    dsimp only
    rw [if_pos (by omega), kd_loop (fun y m j h1 h2 => h y (List.mem_cons_of_mem _ m) j (by omega) (by rw [List.length_cons]; omega)) (by rw [List.length_append, List.length_singleton]; omega), kd, List.append_assoc]
    rfl
theorem sum_run {ds : Nat → Option Df} (h : ds 1 = some f1) {fuel k : Nat} {st : Sto} {x : Pc} (hx : x.ok) : callN ds fuel (k + 1) 1 [.dat x.d] st = .ok (.dat (.int (due x))) st := by
  have h1 := hx.l
  have hl : (x.e :: x.n :: x.p :: x.q :: x.w).length ≤ 1004 := by simp only [List.length_cons]; omega
  have hs : ∀ i ∈ x.e :: x.n :: x.p :: x.q :: x.w, small i := by
    intro i m
    simp only [List.mem_cons] at m
    rcases m with rfl | rfl | rfl | rfl | m
    · exact hx.e
    · exact hx.n
    · exact hx.p
    · exact hx.q
    · exact hx.w i m
  rw [callN_eq h]
  push_cast []
  generalize hr : x.e :: x.n :: x.p :: x.q :: x.w = row at hl hs
  have er : PyData.int x.e :: PyData.int x.n :: PyData.int x.p :: PyData.int x.q :: List.map PyData.int x.w = row.map .int := by rw [← hr]; rfl
  rw [er]
  rw [kd_loop (fun y m j h1 h2 => ?_) (by rw [lim_eq, List.length_nil]; omega)]
  · obtain ⟨ns, e1, e2⟩ := intsOf_kd row 1
    have e3 : biD .sum [.list (kd 1 row)] = some (.dat (.int (sumK 1 row))) := by
      show (intsOf (kd 1 row)).map _ = _
      rw [e1, ← e2]; rfl
    push_cast [e3]
    unfold due
    rw [hr]
  · have := hs y m
    unfold small at this
    push_cast []
theorem right_run {ds : Nat → Option Df} (h1 : ds 1 = some f1) (h : ds 2 = some f2) {fuel k : Nat} {st : Sto} {x : Pc} (hx : x.ok) : callN ds fuel (k + 2) 2 [.dat x.d] st = .ok (.dat (.bool (decide (x.s = due x)))) st := by
  rw [callN_eq h]
  push_cast [sum_run h1 hx, q_at6]
def goesOn (j : Option Jn) (x : Pc) : Bool := match j with
  | none => false
  | some j => decide (0 < j.l) && (decide (x.e = j.e) && (decide (x.n = j.n) && (decide (x.q = j.q) && decide (x.p = j.l))))
theorem goesOn_run {ds : Nat → Option Df} (h1 : ds 3 = some f3) (h : ds 4 = some f4) {fuel k : Nat} {st : Sto} {j : Option Jn} {x : Pc} : callN ds fuel (k + 2) 4 [.dat (jd j), .dat x.d] st = .ok (.dat (.bool (goesOn j x))) st := by
  rw [callN_eq h]
  cases j with
  | none => push_cast [going_run h1, going, goesOn]
  | some j =>
    by_cases h2 : 0 < j.l
    · push_cast [going_run h1, going, goesOn, h2, q_eqD]
    · push_cast [going_run h1, going, goesOn, h2]
def begins (j : Option Jn) (x : Pc) : Bool := decide (x.p = 0) && match j with
  | none => true
  | some j => decide (j.e < x.e ∨ j.e = x.e ∧ j.n < x.n)
theorem begins_run {ds : Nat → Option Df} (h : ds 5 = some f5) {fuel k : Nat} {st : Sto} {j : Option Jn} {x : Pc} : callN ds fuel (k + 1) 5 [.dat (jd j), .dat x.d] st = .ok (.dat (.bool (begins j x))) st := by
  rw [callN_eq h]
  by_cases h2 : x.p = 0
  · cases j with
    | none => push_cast [begins, h2]
    | some j => push_cast [begins, h2]
  · push_cast [begins, h2]
/-- what comes of a piece: the joining behind, the word, what is lost, the letter -/
structure Out where
  j : Option Jn
  w : Str
  l : D
  r : D
abbrev Out.d (o : Out) : D := .tuple [jd o.j, .str o.w, o.l, o.r]
def part (x : Pc) (ws : List Int) (lost : D) : Out :=
  if x.p + 1 = x.q then ⟨some ⟨x.e, x.n, x.q, 0, []⟩, "whole", lost, .tuple [x.t, .int x.n, wd (ws ++ x.w)]⟩
  else ⟨some ⟨x.e, x.n, x.q, x.p + 1, ws ++ x.w⟩, if x.p = 0 then "begun" else "on", lost, .none⟩
theorem part_run {ds : Nat → Option Df} (h : ds 6 = some f6) {fuel k : Nat} {st : Sto} {x : Pc} {ws : List Int} {lost : D} (hx : x.w.length ≤ 1000) (hw : ws.length ≤ 1000000) : callN ds fuel (k + 1) 6 [.dat x.d, .dat (wd ws), .dat lost] st = .ok (.dat (part x ws lost).d) st := by
  rw [callN_eq h]
  by_cases h1 : x.p + 1 = x.q
  · push_cast [part, h1, List.map_append, Out.d, jd, Jn.d, wd, List.map_nil]
  · by_cases h2 : x.p = 0
    · have h3 : ¬ (1 = x.q) := by omega
      push_cast [part, h3, h2, List.map_append, Out.d, jd, Jn.d, wd]
    · push_cast [part, h1, h2, List.map_append, Out.d, jd, Jn.d, wd]
theorem part_run0 {ds : Nat → Option Df} (h : ds 6 = some f6) {fuel k : Nat} {st : Sto} {x : Pc} {lost : D} (hx : x.w.length ≤ 1000) : callN ds fuel (k + 1) 6 [.dat x.d, .dat (.tuple []), .dat lost] st = .ok (.dat (part x [] lost).d) st := part_run h (ws := []) hx (Nat.zero_le _)
def came (j : Option Jn) (x : Pc) : Out :=
  if x.s = due x then
    if goesOn j x then part x (match j with | some j => j.w | none => []) .none
    else if begins j x then part x [] (going j)
    else ⟨j, match j with | some j => if x.e < j.e ∨ x.e = j.e ∧ x.n < j.n then "elder" else "cut" | none => "cut", .none, .none⟩
  else ⟨j, "sum", .none, .none⟩
structure Fns (ds : Nat → Option Df) : Prop where
  h1 : ds 1 = some f1
  h2 : ds 2 = some f2
  h3 : ds 3 = some f3
  h4 : ds 4 = some f4
  h5 : ds 5 = some f5
  h6 : ds 6 = some f6
  h7 : ds 7 = some f7
def jok : Option Jn → Prop
  | none => True
  | some j => j.w.length ≤ 1000000
theorem came_run {ds : Nat → Option Df} (F : Fns ds) {fuel k : Nat} {st : Sto} {x : Pc} {j : Option Jn} (hx : x.ok) (hj : jok j) : callN ds fuel (k + 3) 7 [.dat (jd j), .dat x.d] st = .ok (.dat (came j x).d) st := by
  have h1 := hx.l
  rw [callN_eq F.h7]
  by_cases c1 : x.s = due x
  · cases c2 : goesOn j x with
    | true =>
      cases j with
      | none => cases c2
      | some j =>
        have hj : j.w.length ≤ 1000000 := hj
        push_cast [right_run F.h1 F.h2 hx, c1, goesOn_run F.h3 F.h4 (j := some j), c2, part_run F.h6, came]
    | false =>
      cases c3 : begins j x with
      | true => push_cast [right_run F.h1 F.h2 hx, c1, goesOn_run F.h3 F.h4, c2, part_run0 F.h6, came, begins_run F.h5, c3, going_run F.h3]
      | false =>
        cases j with
        | none => push_cast [right_run F.h1 F.h2 hx, c1, goesOn_run F.h3 F.h4 (j := none), c2, came, begins_run F.h5 (j := none), c3, Out.d, jd, Jn.d, wd]
        | some j =>
          by_cases c4 : x.e < j.e ∨ x.e = j.e ∧ x.n < j.n
          · push_cast [right_run F.h1 F.h2 hx, c1, goesOn_run F.h3 F.h4 (j := some j), c2, came, begins_run F.h5 (j := some j), c3, c4, Out.d, jd, Jn.d, wd]
          · push_cast [right_run F.h1 F.h2 hx, c1, goesOn_run F.h3 F.h4 (j := some j), c2, came, begins_run F.h5 (j := some j), c3, c4, Out.d, jd, Jn.d, wd]
  · push_cast [right_run F.h1 F.h2 hx, c1, came]
end Joi
end
section
set_option Elab.async false
set_option linter.all false
set_option maxRecDepth 20000
open PySem L2 Pur
namespace Hlp
local macro_rules | `(tactic| push_cast [$xs,*]) => `(tactic| simp (implicitDefEqProofs := false) (disch := (first | assumption | exact ⟨rfl, by decide⟩ | exact okI_of (by omega) | exact mulOk_64 (by omega) (by omega) | exact fdiv_64 (by omega) (by omega) | (simp only [lim_eq, List.length_append, List.length_map, List.length_cons, List.length_nil, List.length_reverse, List.length_take, List.length_drop, List.length_replicate, List.length_range, upTo_len, enumD_len, zipD_len]; omega) | omega | (simp only [shp_sh, sh_n, sh_b, sh_i, sh_s, sh_T, sh_L, sh_ints, List.all_cons, List.all_nil, List.all_append, Bool.and_self, Bool.and_true]; first | done | decide))) only [cTst, cNeg, cNt, cAnd, cOr, cBin2, cBin, cCmp2, cCmp, cIte, cTup, cLst, cSub2, cSub, cSl3, cSl2, cSl, cCall2, cCall, cBi, cIsi, cDict, cComp, cTs, cO, cSeq, cRange, cEnum, cDs3, cDs2, cDs, cKs3, cKs2, cKs, cRs, cPs2, cPs, cNext, cAsg, cPar, cSetRs, cPut4, cPut3, cPut2, cPut, cRet, cIf, cSeqS, cFor, cSetSlot, cApp2, cApp, cExt, cComp7, r_tst, r_neg, r_nt, r_and, r_or, r_bin, r_cmp, r_ite, r_tup, r_lst, r_sub, r_slice, r_call, r_bi, r_isi, r_dict, r_comp, r_Ts, r_yes, r_seq, r_range, r_enum, r_Ds, r_Ks, r_Rs, r_Ps, r_seqS, r_asg, r_par, r_put, r_expr, r_ret, r_ifs, r_for, r_setRs, r_setSlot, r_app, r_ext, r_kcomp, q_var_d, q_var_o, q_var_l, q_var_n, q_tst, q_neg, q_andT, q_andF, q_orT, q_orF, q_bin, q_cmp, q_of, q_subL, q_look, q_subD, q_subF, q_subS, q_sub2, q_sl, q_call, q_up, q_bi, q_isi, q_iteT, q_iteF, q_tsT, q_tsF, q_seq, q_lendD, q_lendF, q_lendS, q_enumT, q_enumL, q_o, q_app, q_ext, q_esc_o, q_escD_o, q_res_o, q_res_l, q_res_d, q_nx, q_rt, q_bk, q_ct, q_ifT, q_ifF, q_put, q_putS, q_putOk, q_P_f, q_P_d, q_P_l, q_P_s, q_set, q_setT, q_setS, q_setTs, q_fr_d, q_fr_o, q_fr_n, q_fr_l, q_lo_d, q_lo_n, q_lo_l, q_tru_b, q_tru_i, q_tru_t, q_tru_l, q_tru_n, q_add, q_sub, q_mul, q_fdiv, q_mod, q_pow, q_addL, q_addT, q_lt, q_le, q_gt, q_ge, q_eqS, q_neS, q_eqI, q_isN, q_isnN, q_isB, q_tsub, q_lsub, q_lenL, q_lenT, q_tupL, q_tupT, q_lstL, q_lstT, q_repr, q_max, q_min, q_kI, q_kS, q_sqL, q_sqT, q_evD, q_evL, q_argN, q_argC, q_arg, q_argD, q_at0, q_at1, q_at2, q_at3, q_run, q_finD, q_finF, q_finN, q_finS, q_finO, q_finL, evTs_nil, evO_no, evDs_nil, evKs_nil, evRs_nil, evPs_nil, exs_nil, ex_retN, ex_pass, ex_brk, ex_cont, ev_var, ev_lit, ev_glob, ev_app, ev_ext, esc_dat, esc_fresh, esc_loc, esc_slot, escD_dat, escD_fresh, escD_slot, res_dat, res_fresh, res_slot, setR_dat, setR_fresh, setR_loc, setR_tup, setT_nm, setT_tup, setTs_nil, setTs_cons, setRs_nil2, freeAt_eq, looseAt_eq, O.bind_ok, List.mapM_cons, List.mapM_nil, Option.bind_eq_bind, Option.bind_some, Option.pure_def, Option.map_some, List.getElem?_cons_succ, List.getElem?_cons_zero, List.length_cons, List.length_nil, Nat.reduceAdd, Nat.reduceSub, Nat.le_refl, and_self, List.replicate_succ, List.replicate_zero, List.append_nil, List.cons_append, List.nil_append, List.set_cons_succ, List.set_cons_zero, List.all_cons, List.all_nil, Bool.and_true, Bool.true_and, Bool.not_true, Bool.not_false, Nat.sub_self, List.append_assoc, RV.weak, r_turn, q_turn, q_turnT, q_turnF, q_wipe0, q_wipe1, q_back0, q_back1, q_lend0, q_unlend0, q_lend1, q_lend2, q_unlend1, q_unlend2, q_un, q_lends_o, q_lends_d, q_lends_l, cTurn, cTurn3, cTurn4, List.getD_cons_succ, List.getD_cons_zero, Option.map_none, q_tup0, q_lst0, q_tup1, q_lst1, q_tup2, q_lst2, q_tup3, q_lst3, q_tup4, q_lst4, q_tup5, q_lst5, q_tup6, q_lst6, q_tup7, q_lst7, q_tup8, q_lst8, q_tup9, q_lst9, q_tup10, q_lst10, q_tup11, q_lst11, q_tup12, q_lst12, le_lim0, lt_lim0, le_lim1, lt_lim1, le_lim2, lt_lim2, le_lim3, lt_lim3, le_lim4, lt_lim4, le_lim5, lt_lim5, le_lim6, lt_lim6, le_lim7, lt_lim7, le_lim8, lt_lim8, le_lim9, lt_lim9, le_lim10, lt_lim10, le_lim11, lt_lim11, le_lim12, lt_lim12, le_lim13, lt_lim13, le_lim14, lt_lim14, le_lim15, lt_lim15, le_lim16, lt_lim16, le_lim17, lt_lim17, le_lim18, lt_lim18, le_lim19, lt_lim19, le_lim20, lt_lim20, decide_true, decide_false, eq_self, r_while, cW1, cW2, q_wT, q_wF, q_wn, ne_I, cLoop, cTurnC, r_forC, r_forN, q_lpn, q_lpc, q_lpb, q_lpr, q_eqD, q_neD, q_at4, q_at5, q_at6, q_at7, q_at8, lt2, gt2, cut_to, cut_from, cut_bt, isi_nt, eqv_T, eqv_L, eqv_S, eqvA_n, eqvA_c, eqvA_nc, eqvA_cn, eqv_I, List.take_succ_cons, List.take_zero, List.drop_succ_cons, List.drop_zero, isN_n, isN_b, isN_i, isN_s, isN_l, isN_t, isi_tt, isi_ll, isi_ii, isi_ss, isi_ib, isi_bi, isi_bb, tru_s, cRev, cMth2, cMth, cZip4, cZip3, cZip2, cZip, cPuti2, cPuti1, cPuti, cAug, r_rev, r_mth, r_zip, r_puti, r_killx, Int.reduceAdd, Int.reduceSub, Int.reduceMul, Int.reducePow, Int.reduceNeg, Int.reduceToNat, Int.reduceLT, Int.reduceLE, Int.reduceGT, Int.reduceGE, Int.reduceEq, Int.reduceDiv, Int.reduceMod, Nat.reduceMul, Nat.reduceLT, Nat.reduceLeDiff, Nat.reduceEqDiff, Int.toNat_natCast, r_aug, q_rng, q_rev, q_mth, q_zipL, q_zipT, q_puti1, q_puti2, q_puti3, q_puti4, q_aug, q_aug2, q_aug3, q_enumS, killE_n, killE_c, kKill_d, kKill_o, kKill_l, kKill_n, kKill_c, q_addS, q_ltT, q_gtT, q_revL, q_revT, q_lenS, q_intI, q_intB, q_augI, q_augSub, q_augT, q_slT, q_slL, List.take_length, not_true_eq_false, not_false_eq_true, Bool.false_and, Bool.and_false, Bool.or_true, Bool.true_or, Bool.or_false, Bool.false_or, ite_true, ite_false, if_true, if_false, cond_true, cond_false, Bool.false_eq_true, upTo_len, q_repL, q_repT1, q_repT, Option.some.injEq, Bool.not_eq_true, Bool.decide_eq_true, q_range1, q_range2, $xs,*])
/-- _law_feed (0 _law_script) -/
abbrev f8_0 : CSs := .cons (.ret (.dict [.inr "cells", .inr "at", .inr "left", .inr "count"] (.cons (.bi .list (.cons (.slice (.var 0) .no (.yes (.lit (.int 63)))) .nil)) (.cons (.lit (.int 0)) (.cons (.lit (.int 0)) (.cons (.lit (.int 0)) .nil)))))) .nil
abbrev f8 : Df := ⟨1, 1, f8_0⟩
/-- _law_any (0 _law_feed_here, 1 _law_some) -/
abbrev f9_0 : CSs := .cons (.ret (.sub (.var 1) (.call 0 (.cons (.var 0) (.cons (.bi .len (.cons (.var 1) .nil)) .nil)) .nil [.inl 0, .inl 1]))) .nil
abbrev f9 : Df := ⟨2, 2, f9_0⟩
/-- _law_talk (0 _law_feed_here, 1 _law_words_here, 2 _law_one) -/
abbrev f10_0 : CSs := .cons (.ret (.tup (.cons (.var 2) (.cons (.tup (.cons (.call 0 (.cons (.var 0) (.cons (.lit (.int 2)) .nil)) .nil [.inl 0, .inl 1]) (.cons (.call 9 (.cons (.var 0) (.cons (.var 1) .nil)) .nil [.inl 0, .inl 1]) .nil))) (.cons (.call 9 (.cons (.var 0) (.cons (.lst (.cons (.lit (.str "hi")) (.cons (.lit (.str "yo")) (.cons (.lit (.str "z")) (.cons (.lit (.str "zzzzzzzz")) .nil))))) .nil)) .nil [.inl 0, .inl 1]) .nil))))) .nil
abbrev f10_1 : CSs := .cons (.asg (.nm 2) (.tup (.cons (.call 0 (.cons (.var 0) (.cons (.lit (.int 2)) .nil)) .nil [.inl 0, .inl 1]) (.cons (.call 9 (.cons (.var 0) (.cons (.var 1) .nil)) .nil [.inl 0, .inl 1]) .nil)))) f10_0
abbrev f10_2 : CSs := .cons (.asg (.nm 1) (.lst (.cons (.lit (.str "ann")) (.cons (.lit (.str "bob")) (.cons (.lit (.str "cy")) (.cons (.lit (.str "abcdefgh")) .nil)))))) f10_1
abbrev f10 : Df := ⟨1, 3, f10_2⟩
/-- _law_words (0 _law_feed_here, 1 _law_most_words, 2 _law_found, 3 _law_k) -/
abbrev f11_0 : CSs := .cons (.ret (.bi .tuple (.cons (.var 2) .nil))) .nil
abbrev f11_1 : CSs := .cons (.kill [3]) .nil
abbrev f11_2 : CSs := .cons (.expr (.app 2 (.sub (.lst (.cons (.lit (.int 0)) (.cons (.lit (.int 1)) (.cons (.lit (.int 7)) (.cons (.bin .sub (.bin .pow (.lit (.int 10)) (.lit (.int 6))) (.lit (.int 1))) (.cons (.call 0 (.cons (.var 0) (.cons (.lit (.int 100)) .nil)) .nil [.inl 0, .inl 1]) .nil)))))) (.call 0 (.cons (.var 0) (.cons (.lit (.int 5)) .nil)) .nil [.inl 0, .inl 1])))) f11_1
abbrev f11_3 : CSs := .cons (.for (.nm 3) (.range (.cons (.call 0 (.cons (.var 0) (.cons (.bin .add (.var 1) (.lit (.int 1))) .nil)) .nil [.inl 0, .inl 1]) .nil)) f11_2) f11_0
abbrev f11_4 : CSs := .cons (.asg (.nm 2) (.lst .nil)) f11_3
abbrev f11 : Df := ⟨2, 4, f11_4⟩
/-- _law_due (0 _law_piece_now, 1 _law_found, 2 _law_k, 3 _law_own) -/
abbrev f12_0 : CSs := .cons (.ret (.bin .mod (.var 1) (.lit (.int 10007)))) .nil
abbrev f12_1 : CSs := .cons (.kill [2, 3]) .nil
abbrev f12_2 : CSs := .cons (.asg (.nm 1) (.bin .add (.var 1) (.bin .mul (.bin .add (.var 2) (.lit (.int 1))) (.var 3)))) f12_1
abbrev f12_3 : CSs := .cons (.for (.tup (.cons (.nm 2) (.cons (.nm 3) .nil))) (.enum 0 (.bin .add (.bin .add (.tup (.cons (.sub (.var 0) (.lit (.int 0))) .nil)) (.slice (.var 0) (.yes (.lit (.int 2))) (.yes (.lit (.int 5))))) (.sub (.var 0) (.lit (.int 5))))) f12_2) f12_0
abbrev f12_4 : CSs := .cons (.asg (.nm 1) (.lit (.int 0))) f12_3
abbrev f12 : Df := ⟨1, 4, f12_4⟩
/-- _law_made (0 _law_epoch, 1 _law_talk_here, 2 _law_number, 3 _law_part, 4 _law_parts, 5 _law_words_here, 6 _law_bare) -/
abbrev f13_0 : CSs := .cons (.ret (.bin .add (.var 6) (.tup (.cons (.call 12 (.cons (.var 6) .nil) .nil [.inl 0]) .nil)))) .nil
abbrev f13_1 : CSs := .cons (.asg (.nm 6) (.tup (.cons (.var 0) (.cons (.var 1) (.cons (.var 2) (.cons (.var 3) (.cons (.var 4) (.cons (.var 5) .nil)))))))) f13_0
abbrev f13 : Df := ⟨6, 7, f13_1⟩
/-- _law_cut (0 _law_letter, 1 _law_epoch, 2 _law_cut_here, 3 _law_found, 4 _law_talk_here, 5 _law_number, 6 _law_words_here, 7 _law_many, 8 _law_k) -/
abbrev f14_0 : CSs := .cons (.ret (.bi .tuple (.cons (.var 3) .nil))) .nil
abbrev f14_1 : CSs := .cons (.kill [8]) .nil
abbrev f14_2 : CSs := .cons (.expr (.app 3 (.call 13 (.cons (.var 1) (.cons (.var 4) (.cons (.var 5) (.cons (.var 8) (.cons (.var 7) (.cons (.slice (.var 6) (.yes (.bin .mul (.var 8) (.var 2))) (.yes (.bin .add (.bin .mul (.var 8) (.var 2)) (.var 2)))) .nil)))))) .nil [.inl 0, .inl 1, .inl 2, .inl 3, .inl 4, .inl 5]))) f14_1
abbrev f14_3 : CSs := .cons (.for (.nm 8) (.range (.cons (.var 7) .nil)) f14_2) f14_0
abbrev f14_4 : CSs := .cons (.kill [0]) f14_3
abbrev f14_5 : CSs := .cons (.asg (.nm 7) (.bi .max (.cons (.lit (.int 1)) (.cons (.bin .fdiv (.bin .sub (.bin .add (.bi .len (.cons (.var 6) .nil)) (.var 2)) (.lit (.int 1))) (.var 2)) .nil)))) f14_4
abbrev f14_6 : CSs := .cons (.par (.cons (.tup (.cons (.nm 4) (.cons (.nm 5) (.cons (.nm 6) .nil)))) (.cons (.nm 3) .nil)) (.cons (.var 0) (.cons (.lst .nil) .nil))) f14_5
abbrev f14 : Df := ⟨3, 9, f14_6⟩
/-- _law_spoilt (0 _law_piece_now, 1 _law_at, 2 _law_words_here) -/
abbrev f15_0 : CSs := .cons (.ret (.bin .add (.bin .add (.slice (.var 0) .no (.yes (.lit (.int 5)))) (.tup (.cons (.var 2) .nil))) (.slice (.var 0) (.yes (.lit (.int 6))) .no))) .nil
abbrev f15_1 : CSs := .cons (.asg (.nm 2) (.bin .add (.bin .add (.slice (.var 2) .no (.yes (.var 1))) (.tup (.cons (.bin .add (.sub (.var 2) (.var 1)) (.lit (.int 1))) .nil))) (.slice (.var 2) (.yes (.bin .add (.var 1) (.lit (.int 1)))) .no))) f15_0
abbrev f15_2 : CSs := .cons (.ret (.bin .add (.slice (.var 0) .no (.yes (.lit (.int 6)))) (.tup (.cons (.bin .mod (.bin .add (.sub (.var 0) (.lit (.int 6))) (.lit (.int 1))) (.lit (.int 10007))) .nil)))) .nil
abbrev f15_3 : CSs := .cons (.ifs (.cmp .ge (.var 1) (.bi .len (.cons (.var 2) .nil))) f15_2 .nil) f15_1
abbrev f15_4 : CSs := .cons (.asg (.nm 2) (.sub (.var 0) (.lit (.int 5)))) f15_3
abbrev f15 : Df := ⟨2, 3, f15_4⟩
theorem any_run {ds : Nat → Option Df} (Q : Dw ds) (h : ds 9 = some f9) {fuel k n : Nat} {st : Sto} {xs : List D} (hx : 0 < xs.length) (hl : xs.length ≤ 1000000) (hf : Fe n st) (hn : n ≤ 900000) :
    ∃ d st', d ∈ xs ∧ Fe (n + 1) st' ∧ callN ds fuel (k + 2) 9 [.loc 0, .dat (.list xs)] st = .ok (.dat d) st' := by
  obtain ⟨r, st', c, f, e⟩ := draw_run Q (fuel := fuel) (k := k) (many := (xs.length : Int)) hf (by omega) (by omega) (by omega)
  obtain ⟨d, m, e2⟩ := pick_mem (xs := xs) (r := r) (by omega)
  refine ⟨d, st', m, f, ?_⟩
  rw [callN_eq h]
  push_cast [e, e2, hf.take f]
theorem anyT_run {ds : Nat → Option Df} (Q : Dw ds) (h : ds 9 = some f9) {fuel k n : Nat} {st : Sto} {xs : List D} (hx : 0 < xs.length) (hl : xs.length ≤ 1000000) (hf : Fe n st) (hn : n ≤ 900000) :
    ∃ d st', d ∈ xs ∧ Fe (n + 1) st' ∧ callN ds fuel (k + 2) 9 [.loc 0, .dat (.tuple xs)] st = .ok (.dat d) st' := by
  obtain ⟨r, st', c, f, e⟩ := draw_run Q (fuel := fuel) (k := k) (many := (xs.length : Int)) hf (by omega) (by omega) (by omega)
  obtain ⟨d, m, e2⟩ := pick_mem (xs := xs) (r := r) (by omega)
  refine ⟨d, st', m, f, ?_⟩
  rw [callN_eq h]
  push_cast [e, e2, hf.take f]
def Tk (t : D) : Prop := Fine 2 40 t
theorem fine_lits {xs : List Str} (h : xs.all (fun x => PyData.showable (.str x) && PyData.leavesShort 80 (.str x) && PyData.canLay0 (.str x) && decide (PyData.weight (.str x) ≤ 8)) = true) : ∀ d ∈ xs.map PyData.str, Fine 0 8 d := by
  intro d m
  obtain ⟨x, mx, rfl⟩ := List.mem_map.mp m
  have := List.all_eq_true.mp h x mx
  simp only [Bool.and_eq_true, decide_eq_true_eq] at this
  exact ⟨this.1.1.1, this.1.1.2, this.1.2, Nat.le_refl _, this.2⟩
theorem fine2 {a b : D} {k n : Nat} (ha : Fine k n a) (hb : Fine k n b) : Fine (k + 1) (2 * (n + 1)) (.tuple [a, b]) := Fine.tuple (xs := [a, b]) fun x m => by
  simp only [List.mem_cons, List.not_mem_nil, or_false] at m
  rcases m with rfl | rfl
  · exact ha
  · exact hb
theorem fine3 {a b c : D} {k n : Nat} (ha : Fine k n a) (hb : Fine k n b) (hc : Fine k n c) : Fine (k + 1) (3 * (n + 1)) (.tuple [a, b, c]) := Fine.tuple (xs := [a, b, c]) fun x m => by
  simp only [List.mem_cons, List.not_mem_nil, or_false] at m
  rcases m with rfl | rfl | rfl
  · exact ha
  · exact hb
  · exact hc
theorem fine_nat {n : Nat} (h : n ≤ 1) : Fine 0 8 (.int n) := by
  match n, h with
  | 0, _ => exact ⟨by decide +kernel, by decide +kernel, rfl, Nat.le_refl _, by decide +kernel⟩
  | 1, _ => exact ⟨by decide +kernel, by decide +kernel, rfl, Nat.le_refl _, by decide +kernel⟩
theorem talk_run {ds : Nat → Option Df} (Q : Dw ds) (h9 : ds 9 = some f9) (h : ds 10 = some f10) {fuel k n : Nat} {st : Sto} (hf : Fe n st) (hn : n ≤ 800000) :
    ∃ t st', Fine 2 59 t ∧ Fe (n + 5) st' ∧ callN ds fuel (k + 3) 10 [.loc 0] st = .ok (.dat t) st' := by
  obtain ⟨r1, s1, c1, f1, e1⟩ := draw_run Q (fuel := fuel) (k := k + 1) (many := 2) hf (by omega) (by decide) (by decide)
  obtain ⟨d1, s2, m1, f2, e2⟩ := any_run Q h9 (fuel := fuel) (k := k) (xs := [.str "ann", .str "bob", .str "cy", .str "abcdefgh"]) (by decide) (by decide) f1 (by omega)
  obtain ⟨r2, s3, c2, f3, e3⟩ := draw_run Q (fuel := fuel) (k := k + 1) (many := 2) f2 (by omega) (by decide) (by decide)
  obtain ⟨d2, s4, m2, f4, e4⟩ := any_run Q h9 (fuel := fuel) (k := k) (xs := [.str "ann", .str "bob", .str "cy", .str "abcdefgh"]) (by decide) (by decide) f3 (by omega)
  obtain ⟨d3, s5, m3, f5, e5⟩ := any_run Q h9 (fuel := fuel) (k := k) (xs := [.str "hi", .str "yo", .str "z", .str "zzzzzzzz"]) (by decide) (by decide) f4 (by omega)
  have w : ∀ d ∈ [PyData.str "ann", .str "bob", .str "cy", .str "abcdefgh"], Fine 0 8 d := fine_lits (xs := ["ann", "bob", "cy", "abcdefgh"]) (by decide +kernel)
  have w2 : ∀ d ∈ [PyData.str "hi", .str "yo", .str "z", .str "zzzzzzzz"], Fine 0 8 d := fine_lits (xs := ["hi", "yo", "z", "zzzzzzzz"]) (by decide +kernel)
  refine ⟨.tuple [.tuple [.int r1, d1], .tuple [.int r2, d2], d3], s5, ?_, f5, ?_⟩
  · refine Fine.mono (fine3 (k := 1) (n := 18) ?_ ?_ ?_) (Nat.le_refl _) (by decide)
    · exact fine2 (fine_nat (by omega)) (w _ m1)
    · exact fine2 (fine_nat (by omega)) (w _ m2)
    · exact Fine.mono (w2 _ m3) (by decide) (by decide)
  · rw [callN_eq h]
    push_cast [e1, e2, e3, e4, e5, hf.take f5]
/-- words of a letter -/
structure Wd (m : Nat) (w : List Int) : Prop where
  l : w.length ≤ m
  r : ∀ i ∈ w, 0 ≤ i ∧ i ≤ 1000000
theorem words_run {ds : Nat → Option Df} (Q : Dw ds) (h : ds 11 = some f11) {fuel k n m : Nat} {st : Sto} (hm : m ≤ 1000) (hf : Fe n st) (hn : n ≤ 800000) :
    ∃ w n' st', Wd m w ∧ Fe n' st' ∧ n' ≤ n + 1 + 2 * m ∧ callN ds fuel (k + 2) 11 [.loc 0, .dat (.int m)] st = .ok (.dat (.tuple (w.map .int))) st' := by
  obtain ⟨r1, s1, c1, f1, e1⟩ := draw_run Q (fuel := fuel) (k := k) (many := (m : Int) + 1) hf (by omega) (by omega) (by omega)
  have lp := forL_inv (t := .nm 3) (f := exs ⟨callN ds fuel (k + 1), fuel⟩ f11_2) (xs := upTo 0 r1) (s := ⟨[.loc 0, .dat (.int m), .own [], .non], s1⟩)
    (fun i s => ∃ w n' st', Wd i w ∧ Fe n' st' ∧ n' = n + 1 + 2 * i ∧ s = ⟨[.loc 0, .dat (.int m), .own (w.map .int), .non], st'⟩) ⟨[], _, s1, ⟨Nat.le_refl _, by simp⟩, f1, rfl, rfl⟩ fun j x s hj ⟨w, n', st', hw, hf', en, es⟩ => by
      obtain ⟨hlt, rfl⟩ := upTo_get _ _ _ _ hj
      subst es
      have hl := hw.l
      obtain ⟨r2, s2, c2, f2, e2⟩ := draw_run Q (fuel := fuel) (k := k) (many := 100) hf' (by omega) (by decide) (by decide)
      obtain ⟨r3, s3, c3, f3, e3⟩ := draw_run Q (fuel := fuel) (k := k) (many := 5) f2 (by omega) (by decide) (by decide)
      obtain ⟨d, md, e4⟩ := pick_mem (xs := [0, 1, 7, 999999, (r2 : Int)].map PyData.int) (r := r3) (by simp; omega)
      obtain ⟨i, mi, rfl⟩ := List.mem_map.mp md
      simp only [List.map_cons, List.map_nil] at e4
      have hi : 0 ≤ i ∧ i ≤ 1000000 := by
        simp only [List.mem_cons, List.not_mem_nil, or_false] at mi
        omega
      refine ⟨_, .inl (?_ : _ = O.ok Fl.next ⟨[.loc 0, .dat (.int m), .own ((w ++ [i]).map .int), .non], s3⟩), w ++ [i], _, s3, ⟨by rw [List.length_append, List.length_singleton]; omega, fun x mx => ?_⟩, f3, by omega, rfl⟩
      · push_cast [cTurnL, e2, e3, e4, List.map_append, List.map_cons, List.map_nil]
      · rcases List.mem_append.mp mx with z | z
        · exact hw.r x z
        · rw [List.mem_singleton.mp z]; exact hi
  rw [upTo_len] at lp
  obtain ⟨s', le, w, n', st', hw, hf', en, es⟩ := lp
  subst es
  refine ⟨w, n', st', ⟨by have := hw.l; omega, hw.r⟩, hf', by omega, ?_⟩
  rw [callN_eq h]
  push_cast [e1, le, hf.take hf']
open Joi
theorem due_loop {C : Cn} {d0 : PyData} {st : Sto} : ∀ {xs : List Int} {k acc : Int}, (∀ x ∈ xs, small x) → 0 ≤ k → k + xs.length ≤ 5000 →
    forL (.tup (.cons (.nm 2) (.cons (.nm 3) .nil))) (exs C f12_2) (enumD k (xs.map .int)) ⟨[.dat d0, .dat (.int acc), .non, .non], st⟩ = .ok .next ⟨[.dat d0, .dat (.int (acc + sumK (k + 1) xs)), .non, .non], st⟩
  | [], k, acc, _, _, _ => by rw [List.map_nil, enumD, forL, sumK, Int.add_zero]
  | x :: xs, k, acc, h, h0, h1 => by
    rw [List.length_cons] at h1
    have hx := h x List.mem_cons_self
    unfold small at hx
    rw [List.map_cons, enumD]
    push_cast [due_loop (xs := xs) (k := k + 1) (acc := acc + (k + 1) * x) (fun y m => h y (List.mem_cons_of_mem _ m)) (by omega) (by omega), sumK]
    rw [Int.add_assoc]
def dueOf (e n p q : Int) (w : List Int) : Int := sumK 1 (e :: n :: p :: q :: w) % 10007
theorem due_run {ds : Nat → Option Df} (h : ds 12 = some f12) {fuel k : Nat} {st : Sto} {e n p q : Int} {t : PyData} {w : List Int} {rest : List PyData} (h1 : small e) (h2 : small n) (h3 : small p) (h4 : small q) (h5 : ∀ i ∈ w, small i) (hl : w.length ≤ 1000) :
    callN ds fuel (k + 1) 12 [.dat (.tuple (.int e :: t :: .int n :: .int p :: .int q :: .tuple (w.map .int) :: rest))] st = .ok (.dat (.int (dueOf e n p q w))) st := by
  rw [callN_eq h]
  have lp := due_loop (C := ⟨callN ds fuel k, fuel⟩) (d0 := .tuple (.int e :: t :: .int n :: .int p :: .int q :: .tuple (w.map .int) :: rest)) (st := st) (xs := e :: n :: p :: q :: w) (k := 0) (acc := 0) (by
    intro i m
    simp only [List.mem_cons] at m
    rcases m with rfl | rfl | rfl | rfl | m
    · exact h1
    · exact h2
    · exact h3
    · exact h4
    · exact h5 i m) (by decide) (by simp only [List.length_cons]; omega)
  simp only [List.map_cons] at lp
  push_cast [lp]
  unfold dueOf
  rw [Int.zero_add]
abbrev mk (e : Int) (t : PyData) (n p q : Int) (w : List Int) : Pc := ⟨e, t, n, p, q, w, dueOf e n p q w⟩
theorem made_run {ds : Nat → Option Df} (h1 : ds 12 = some f12) (h : ds 13 = some f13) {fuel k : Nat} {st : Sto} {e n p q : Int} {t : PyData} {w : List Int} (a1 : small e) (a2 : small n) (a3 : small p) (a4 : small q) (a5 : ∀ i ∈ w, small i) (hl : w.length ≤ 1000) :
    callN ds fuel (k + 2) 13 [.dat (.int e), .dat t, .dat (.int n), .dat (.int p), .dat (.int q), .dat (.tuple (w.map .int))] st = .ok (.dat (mk e t n p q w).d) st := by
  rw [callN_eq h]
  push_cast [due_run h1 (rest := []) a1 a2 a3 a4 a5 hl]
/-- a letter cut -/
def many (w : List Int) (c : Nat) : Nat := max 1 ((w.length + c - 1) / c)
def cutL (t : PyData) (n : Int) (w : List Int) (e : Int) (c : Nat) : List Pc := (List.range (many w c)).map fun (k : Nat) => mk e t n k (many w c) ((w.drop (k * c)).take c)
theorem many_le {w : List Int} {c : Nat} (hc : 0 < c) (h : w.length ≤ 1000) : many w c ≤ 1000 + c := by
  unfold many
  have : (w.length + c - 1) / c ≤ w.length + c - 1 := Nat.div_le_self _ _
  omega
theorem cut_many {w : List Int} {c : Nat} (hc : 0 < c) : max (1 : Int) (((w.length : Int) + (c : Int) - 1) / (c : Int)) = (many w c : Int) := by
  unfold many
  have e : ((w.length : Int) + (c : Int) - 1) = ((w.length + c - 1 : Nat) : Int) := by omega
  rw [e, ← Int.natCast_ediv]
  omega
theorem cutL_run {ds : Nat → Option Df} (h1 : ds 12 = some f12) (h2 : ds 13 = some f13) (h : ds 14 = some f14) {fuel k : Nat} {st : Sto} {e n : Int} {t : PyData} {w : List Int} {c : Nat} (a1 : small e) (a2 : small n) (a5 : ∀ i ∈ w, small i) (hl : w.length ≤ 1000) (hc : 0 < c) (hc2 : c ≤ 1000) :
    callN ds fuel (k + 3) 14 [.dat (.tuple [t, .int n, .tuple (w.map .int)]), .dat (.int e), .dat (.int c)] st = .ok (.dat (.tuple ((cutL t n w e c).map Pc.d))) st := by
  have hm := many_le hc hl
  have cm := cut_many (w := w) hc
  have cm : (if (((w.length : Int) + (c : Int) - 1) / (c : Int)) > 1 then (((w.length : Int) + (c : Int) - 1) / (c : Int)) else 1) = (many w c : Int) := by rw [← cm]; omega
  obtain ⟨s', le, es⟩ := forL_inv (t := .nm 8) (f := exs ⟨callN ds fuel (k + 2), fuel⟩ f14_2) (xs := upTo 0 (many w c)) (s := ⟨[.non, .dat (.int e), .dat (.int c), .own [], .dat t, .dat (.int n), .dat (.tuple (w.map .int)), .dat (.int (many w c : Nat)), .non], st⟩)
    (fun i s => s = ⟨[.non, .dat (.int e), .dat (.int c), .own (((List.range i).map fun (k : Nat) => mk e t n k (many w c) ((w.drop (k * c)).take c)).map Pc.d), .dat t, .dat (.int n), .dat (.tuple (w.map .int)), .dat (.int (many w c : Nat)), .non], st⟩) rfl fun j x s hj es => by
      obtain ⟨hlt, rfl⟩ := upTo_get _ _ _ _ hj
      subst es
      have hjc : (j : Int) * (c : Int) = ((j * c : Nat) : Int) := by simp
      have md := made_run h1 h2 (fuel := fuel) (k := k) (st := st) (e := e) (n := n) (t := t) (p := (j : Int)) (q := (many w c : Int)) (w := (w.drop (j * c)).take c) a1 a2 (by unfold small; omega) (by unfold small; omega) (fun i m => a5 i (List.mem_of_mem_drop (List.mem_of_mem_take m))) (by rw [List.length_take, List.length_drop]; omega)
      rw [List.map_take, List.map_drop] at md
      refine ⟨_, .inl ?_, rfl⟩
      have hb : ((j * c : Nat) : Int) + (c : Int) = ((j * c + c : Nat) : Int) := by omega
      have hcut : cutD (w.map PyData.int) (some ((j * c : Nat) : Int)) (some ((j * c + c : Nat) : Int)) = ((w.map PyData.int).drop (j * c)).take c := by rw [cut_btN]; congr 1; omega
      push_cast [cTurnL, Int.zero_add, hjc, hb, hcut, md, List.range_succ, List.map_append, List.map_cons, List.map_nil]
  rw [upTo_len] at es
  subst es
  rw [callN_eq h]
  push_cast [List.length_map, cm, le, cutL]
/-- a piece with a word, or its sum, one more -/
def spoil (x : Pc) (a : Nat) : Pc := if x.w.length ≤ a then { x with s := (x.s + 1) % 10007 } else { x with w := x.w.take a ++ [x.w.getD a 0 + 1] ++ x.w.drop (a + 1) }
theorem spoil_run {ds : Nat → Option Df} (h : ds 15 = some f15) {fuel k : Nat} {st : Sto} {x : Pc} {a : Nat} (hl : x.w.length ≤ 1000) : callN ds fuel (k + 1) 15 [.dat x.d, .dat (.int a)] st = .ok (.dat (spoil x a).d) st := by
  rw [callN_eq h]
  by_cases c : x.w.length ≤ a
  · have c' : (x.w.length : Int) ≤ (a : Int) := by omega
    push_cast [spoil, c, c', List.length_map]
  · have c' : ¬ (x.w.length : Int) ≤ (a : Int) := by omega
    have e1 : L2.atI (x.w.map PyData.int) (a : Int) = some (.int (x.w.getD a 0)) := by
      have := q_atN (xs := x.w.map PyData.int) (i := a) (by rw [List.length_map]; omega)
      rw [this, List.getElem_map]
      congr 2
      rw [List.getD_eq_getElem?_getD, List.getElem?_eq_getElem (by omega)]; rfl
    have e2 : (a : Int) + 1 = ((a + 1 : Nat) : Int) := by omega
    push_cast [spoil, c, c', List.length_map, e1, e2, cut_toN, cut_fromN, List.map_append, List.map_take, List.map_drop, List.map_cons, List.map_nil, Pc.d, wd]
end Hlp
end
section
set_option Elab.async false
set_option linter.all false
set_option maxRecDepth 20000
open PySem L2 Pur
namespace Hlp
local macro_rules | `(tactic| push_cast [$xs,*]) => `(tactic| simp (implicitDefEqProofs := false) (disch := (first | assumption | exact ⟨rfl, by decide⟩ | exact okI_of (by omega) | exact mulOk_64 (by omega) (by omega) | exact fdiv_64 (by omega) (by omega) | (simp only [lim_eq, List.length_append, List.length_map, List.length_cons, List.length_nil, List.length_reverse, List.length_take, List.length_drop, List.length_replicate, List.length_range, upTo_len, enumD_len, zipD_len]; omega) | omega | (simp only [shp_sh, sh_n, sh_b, sh_i, sh_s, sh_T, sh_L, sh_ints, List.all_cons, List.all_nil, List.all_append, Bool.and_self, Bool.and_true]; first | done | decide))) only [cTst, cNeg, cNt, cAnd, cOr, cBin2, cBin, cCmp2, cCmp, cIte, cTup, cLst, cSub2, cSub, cSl3, cSl2, cSl, cCall2, cCall, cBi, cIsi, cDict, cComp, cTs, cO, cSeq, cRange, cEnum, cDs3, cDs2, cDs, cKs3, cKs2, cKs, cRs, cPs2, cPs, cNext, cAsg, cPar, cSetRs, cPut4, cPut3, cPut2, cPut, cRet, cIf, cSeqS, cFor, cSetSlot, cApp2, cApp, cExt, cComp7, r_tst, r_neg, r_nt, r_and, r_or, r_bin, r_cmp, r_ite, r_tup, r_lst, r_sub, r_slice, r_call, r_bi, r_isi, r_dict, r_comp, r_Ts, r_yes, r_seq, r_range, r_enum, r_Ds, r_Ks, r_Rs, r_Ps, r_seqS, r_asg, r_par, r_put, r_expr, r_ret, r_ifs, r_for, r_setRs, r_setSlot, r_app, r_ext, r_kcomp, q_var_d, q_var_o, q_var_l, q_var_n, q_tst, q_neg, q_andT, q_andF, q_orT, q_orF, q_bin, q_cmp, q_of, q_subL, q_look, q_subD, q_subF, q_subS, q_sub2, q_sl, q_call, q_up, q_bi, q_isi, q_iteT, q_iteF, q_tsT, q_tsF, q_seq, q_lendD, q_lendF, q_lendS, q_enumT, q_enumL, q_o, q_app, q_ext, q_esc_o, q_escD_o, q_res_o, q_res_l, q_res_d, q_nx, q_rt, q_bk, q_ct, q_ifT, q_ifF, q_put, q_putS, q_putOk, q_P_f, q_P_d, q_P_l, q_P_s, q_set, q_setT, q_setS, q_setTs, q_fr_d, q_fr_o, q_fr_n, q_fr_l, q_lo_d, q_lo_n, q_lo_l, q_tru_b, q_tru_i, q_tru_t, q_tru_l, q_tru_n, q_add, q_sub, q_mul, q_fdiv, q_mod, q_pow, q_addL, q_addT, q_lt, q_le, q_gt, q_ge, q_eqS, q_neS, q_eqI, q_isN, q_isnN, q_isB, q_tsub, q_lsub, q_lenL, q_lenT, q_tupL, q_tupT, q_lstL, q_lstT, q_repr, q_max, q_min, q_kI, q_kS, q_sqL, q_sqT, q_evD, q_evL, q_argN, q_argC, q_arg, q_argD, q_at0, q_at1, q_at2, q_at3, q_run, q_finD, q_finF, q_finN, q_finS, q_finO, q_finL, evTs_nil, evO_no, evDs_nil, evKs_nil, evRs_nil, evPs_nil, exs_nil, ex_retN, ex_pass, ex_brk, ex_cont, ev_var, ev_lit, ev_glob, ev_app, ev_ext, esc_dat, esc_fresh, esc_loc, esc_slot, escD_dat, escD_fresh, escD_slot, res_dat, res_fresh, res_slot, setR_dat, setR_fresh, setR_loc, setR_tup, setT_nm, setT_tup, setTs_nil, setTs_cons, setRs_nil2, freeAt_eq, looseAt_eq, O.bind_ok, List.mapM_cons, List.mapM_nil, Option.bind_eq_bind, Option.bind_some, Option.pure_def, Option.map_some, List.getElem?_cons_succ, List.getElem?_cons_zero, List.length_cons, List.length_nil, Nat.reduceAdd, Nat.reduceSub, Nat.le_refl, and_self, List.replicate_succ, List.replicate_zero, List.append_nil, List.cons_append, List.nil_append, List.set_cons_succ, List.set_cons_zero, List.all_cons, List.all_nil, Bool.and_true, Bool.true_and, Bool.not_true, Bool.not_false, Nat.sub_self, List.append_assoc, RV.weak, r_turn, q_turn, q_turnT, q_turnF, q_wipe0, q_wipe1, q_back0, q_back1, q_lend0, q_unlend0, q_lend1, q_lend2, q_unlend1, q_unlend2, q_un, q_lends_o, q_lends_d, q_lends_l, cTurn, cTurn3, cTurn4, List.getD_cons_succ, List.getD_cons_zero, Option.map_none, q_tup0, q_lst0, q_tup1, q_lst1, q_tup2, q_lst2, q_tup3, q_lst3, q_tup4, q_lst4, q_tup5, q_lst5, q_tup6, q_lst6, q_tup7, q_lst7, q_tup8, q_lst8, q_tup9, q_lst9, q_tup10, q_lst10, q_tup11, q_lst11, q_tup12, q_lst12, le_lim0, lt_lim0, le_lim1, lt_lim1, le_lim2, lt_lim2, le_lim3, lt_lim3, le_lim4, lt_lim4, le_lim5, lt_lim5, le_lim6, lt_lim6, le_lim7, lt_lim7, le_lim8, lt_lim8, le_lim9, lt_lim9, le_lim10, lt_lim10, le_lim11, lt_lim11, le_lim12, lt_lim12, le_lim13, lt_lim13, le_lim14, lt_lim14, le_lim15, lt_lim15, le_lim16, lt_lim16, le_lim17, lt_lim17, le_lim18, lt_lim18, le_lim19, lt_lim19, le_lim20, lt_lim20, decide_true, decide_false, eq_self, r_while, cW1, cW2, q_wT, q_wF, q_wn, ne_I, cLoop, cTurnC, r_forC, r_forN, q_lpn, q_lpc, q_lpb, q_lpr, q_eqD, q_neD, q_at4, q_at5, q_at6, q_at7, q_at8, lt2, gt2, cut_to, cut_from, cut_bt, isi_nt, eqv_T, eqv_L, eqv_S, eqvA_n, eqvA_c, eqvA_nc, eqvA_cn, eqv_I, List.take_succ_cons, List.take_zero, List.drop_succ_cons, List.drop_zero, isN_n, isN_b, isN_i, isN_s, isN_l, isN_t, isi_tt, isi_ll, isi_ii, isi_ss, isi_ib, isi_bi, isi_bb, tru_s, cRev, cMth2, cMth, cZip4, cZip3, cZip2, cZip, cPuti2, cPuti1, cPuti, cAug, r_rev, r_mth, r_zip, r_puti, r_killx, Int.reduceAdd, Int.reduceSub, Int.reduceMul, Int.reducePow, Int.reduceNeg, Int.reduceToNat, Int.reduceLT, Int.reduceLE, Int.reduceGT, Int.reduceGE, Int.reduceEq, Int.reduceDiv, Int.reduceMod, Nat.reduceMul, Nat.reduceLT, Nat.reduceLeDiff, Nat.reduceEqDiff, Int.toNat_natCast, r_aug, q_rng, q_rev, q_mth, q_zipL, q_zipT, q_puti1, q_puti2, q_puti3, q_puti4, q_aug, q_aug2, q_aug3, q_enumS, killE_n, killE_c, kKill_d, kKill_o, kKill_l, kKill_n, kKill_c, q_addS, q_ltT, q_gtT, q_revL, q_revT, q_lenS, q_intI, q_intB, q_augI, q_augSub, q_augT, q_slT, q_slL, List.take_length, not_true_eq_false, not_false_eq_true, Bool.false_and, Bool.and_false, Bool.or_true, Bool.true_or, Bool.or_false, Bool.false_or, ite_true, ite_false, if_true, if_false, cond_true, cond_false, Bool.false_eq_true, upTo_len, q_repL, q_repT1, q_repT, Option.some.injEq, Bool.not_eq_true, Bool.decide_eq_true, q_range1, q_range2, $xs,*])
theorem finL0 {n m : Nat} {s : Sg} {kvs : List (Ky × D)} (h : ¬ m < n) (e : s.sto[m]? = some kvs) : Pur.fin n (.ok (.ret (.loc m)) s) = .ok (.loc n) (s.sto.take n ++ [kvs]) := by
  unfold Pur.fin
  simp only [if_neg h, e]
theorem feed_run {ds : Nat → Option Df} (h : ds 8 = some f8) {fuel k : Nat} {ns : List Int} (hl : ns.length ≤ 63) : callN ds fuel (k + 1) 8 [.dat (.list (ns.map .int))] [] = .ok (.loc 0) [feedOf ns 0 0 0] := by
  have hs : sliceD (.list (ns.map PyData.int)) none (some 63) = some (.fresh (ns.map PyData.int)) := by
    show some (RV.fresh (cutD (ns.map PyData.int) none (some 63))) = _
    unfold cutD
    rw [HT.sIx_none, show (some (63 : Int)) = some ((63 : Nat) : Int) from rfl, HT.sIx_nat, List.drop_zero, List.take_of_length_le (by simp; omega)]
  have hd : ∀ s : Sg, s.sto = [] → cDict [.inr "cells", .inr "at", .inr "left", .inr "count"] [.list (ns.map PyData.int), .int 0, .int 0, .int 0] s = .ok (.loc 0) { s with sto := [feedOf ns 0 0 0] } := fun s e => by
    unfold cDict kDict
    rw [if_pos ⟨rfl, by decide⟩, e]
    rfl
  rw [callN_eq h]
  push_cast [hs, hd]
  exact finL0 (Nat.not_lt_zero _) rfl
end Hlp
end
section
set_option Elab.async false
set_option linter.all false
set_option maxRecDepth 20000
open PySem L2 Pur
namespace Cam
local macro_rules | `(tactic| push_cast [$xs,*]) => `(tactic| simp (implicitDefEqProofs := false) (disch := (first | assumption | exact ⟨rfl, by decide⟩ | exact okI_of (by omega) | exact mulOk_64 (by omega) (by omega) | exact fdiv_64 (by omega) (by omega) | (simp only [lim_eq, List.length_append, List.length_map, List.length_cons, List.length_nil, List.length_reverse, List.length_take, List.length_drop, List.length_replicate, List.length_range, upTo_len, enumD_len, zipD_len]; omega) | omega | (simp only [shp_sh, sh_n, sh_b, sh_i, sh_s, sh_T, sh_L, sh_ints, List.all_cons, List.all_nil, List.all_append, Bool.and_self, Bool.and_true]; first | done | decide))) only [cTst, cNeg, cNt, cAnd, cOr, cBin2, cBin, cCmp2, cCmp, cIte, cTup, cLst, cSub2, cSub, cSl3, cSl2, cSl, cCall2, cCall, cBi, cIsi, cDict, cComp, cTs, cO, cSeq, cRange, cEnum, cDs3, cDs2, cDs, cKs3, cKs2, cKs, cRs, cPs2, cPs, cNext, cAsg, cPar, cSetRs, cPut4, cPut3, cPut2, cPut, cRet, cIf, cSeqS, cFor, cSetSlot, cApp2, cApp, cExt, cComp7, r_tst, r_neg, r_nt, r_and, r_or, r_bin, r_cmp, r_ite, r_tup, r_lst, r_sub, r_slice, r_call, r_bi, r_isi, r_dict, r_comp, r_Ts, r_yes, r_seq, r_range, r_enum, r_Ds, r_Ks, r_Rs, r_Ps, r_seqS, r_asg, r_par, r_put, r_expr, r_ret, r_ifs, r_for, r_setRs, r_setSlot, r_app, r_ext, r_kcomp, q_var_d, q_var_o, q_var_l, q_var_n, q_tst, q_neg, q_andT, q_andF, q_orT, q_orF, q_bin, q_cmp, q_of, q_subL, q_look, q_subD, q_subF, q_subS, q_sub2, q_sl, q_call, q_up, q_bi, q_isi, q_iteT, q_iteF, q_tsT, q_tsF, q_seq, q_lendD, q_lendF, q_lendS, q_enumT, q_enumL, q_o, q_app, q_ext, q_esc_o, q_escD_o, q_res_o, q_res_l, q_res_d, q_nx, q_rt, q_bk, q_ct, q_ifT, q_ifF, q_put, q_putS, q_putOk, q_P_f, q_P_d, q_P_l, q_P_s, q_set, q_setT, q_setS, q_setTs, q_fr_d, q_fr_o, q_fr_n, q_fr_l, q_lo_d, q_lo_n, q_lo_l, q_tru_b, q_tru_i, q_tru_t, q_tru_l, q_tru_n, q_add, q_sub, q_mul, q_fdiv, q_mod, q_pow, q_addL, q_addT, q_lt, q_le, q_gt, q_ge, q_eqS, q_neS, q_eqI, q_isN, q_isnN, q_isB, q_tsub, q_lsub, q_lenL, q_lenT, q_tupL, q_tupT, q_lstL, q_lstT, q_repr, q_max, q_min, q_kI, q_kS, q_sqL, q_sqT, q_evD, q_evL, q_argN, q_argC, q_arg, q_argD, q_at0, q_at1, q_at2, q_at3, q_run, q_finD, q_finF, q_finN, q_finS, q_finO, q_finL, evTs_nil, evO_no, evDs_nil, evKs_nil, evRs_nil, evPs_nil, exs_nil, ex_retN, ex_pass, ex_brk, ex_cont, ev_var, ev_lit, ev_glob, ev_app, ev_ext, esc_dat, esc_fresh, esc_loc, esc_slot, escD_dat, escD_fresh, escD_slot, res_dat, res_fresh, res_slot, setR_dat, setR_fresh, setR_loc, setR_tup, setT_nm, setT_tup, setTs_nil, setTs_cons, setRs_nil2, freeAt_eq, looseAt_eq, O.bind_ok, List.mapM_cons, List.mapM_nil, Option.bind_eq_bind, Option.bind_some, Option.pure_def, Option.map_some, List.getElem?_cons_succ, List.getElem?_cons_zero, List.length_cons, List.length_nil, Nat.reduceAdd, Nat.reduceSub, Nat.le_refl, and_self, List.replicate_succ, List.replicate_zero, List.append_nil, List.cons_append, List.nil_append, List.set_cons_succ, List.set_cons_zero, List.all_cons, List.all_nil, Bool.and_true, Bool.true_and, Bool.not_true, Bool.not_false, Nat.sub_self, List.append_assoc, RV.weak, r_turn, q_turn, q_turnT, q_turnF, q_wipe0, q_wipe1, q_back0, q_back1, q_lend0, q_unlend0, q_lend1, q_lend2, q_unlend1, q_unlend2, q_un, q_lends_o, q_lends_d, q_lends_l, cTurn, cTurn3, cTurn4, List.getD_cons_succ, List.getD_cons_zero, Option.map_none, q_tup0, q_lst0, q_tup1, q_lst1, q_tup2, q_lst2, q_tup3, q_lst3, q_tup4, q_lst4, q_tup5, q_lst5, q_tup6, q_lst6, q_tup7, q_lst7, q_tup8, q_lst8, q_tup9, q_lst9, q_tup10, q_lst10, q_tup11, q_lst11, q_tup12, q_lst12, le_lim0, lt_lim0, le_lim1, lt_lim1, le_lim2, lt_lim2, le_lim3, lt_lim3, le_lim4, lt_lim4, le_lim5, lt_lim5, le_lim6, lt_lim6, le_lim7, lt_lim7, le_lim8, lt_lim8, le_lim9, lt_lim9, le_lim10, lt_lim10, le_lim11, lt_lim11, le_lim12, lt_lim12, le_lim13, lt_lim13, le_lim14, lt_lim14, le_lim15, lt_lim15, le_lim16, lt_lim16, le_lim17, lt_lim17, le_lim18, lt_lim18, le_lim19, lt_lim19, le_lim20, lt_lim20, decide_true, decide_false, eq_self, r_while, cW1, cW2, q_wT, q_wF, q_wn, ne_I, cLoop, cTurnC, r_forC, r_forN, q_lpn, q_lpc, q_lpb, q_lpr, q_eqD, q_neD, q_at4, q_at5, q_at6, q_at7, q_at8, lt2, gt2, cut_to, cut_from, cut_bt, isi_nt, eqv_T, eqv_L, eqv_S, eqvA_n, eqvA_c, eqvA_nc, eqvA_cn, eqv_I, List.take_succ_cons, List.take_zero, List.drop_succ_cons, List.drop_zero, isN_n, isN_b, isN_i, isN_s, isN_l, isN_t, isi_tt, isi_ll, isi_ii, isi_ss, isi_ib, isi_bi, isi_bb, tru_s, cRev, cMth2, cMth, cZip4, cZip3, cZip2, cZip, cPuti2, cPuti1, cPuti, cAug, r_rev, r_mth, r_zip, r_puti, r_killx, Int.reduceAdd, Int.reduceSub, Int.reduceMul, Int.reducePow, Int.reduceNeg, Int.reduceToNat, Int.reduceLT, Int.reduceLE, Int.reduceGT, Int.reduceGE, Int.reduceEq, Int.reduceDiv, Int.reduceMod, Nat.reduceMul, Nat.reduceLT, Nat.reduceLeDiff, Nat.reduceEqDiff, Int.toNat_natCast, r_aug, q_rng, q_rev, q_mth, q_zipL, q_zipT, q_puti1, q_puti2, q_puti3, q_puti4, q_aug, q_aug2, q_aug3, q_enumS, killE_n, killE_c, kKill_d, kKill_o, kKill_l, kKill_n, kKill_c, q_addS, q_ltT, q_gtT, q_revL, q_revT, q_lenS, q_intI, q_intB, q_augI, q_augSub, q_augT, q_slT, q_slL, List.take_length, not_true_eq_false, not_false_eq_true, Bool.false_and, Bool.and_false, Bool.or_true, Bool.true_or, Bool.or_false, Bool.false_or, ite_true, ite_false, if_true, if_false, cond_true, cond_false, Bool.false_eq_true, upTo_len, q_repL, q_repT1, q_repT, Option.some.injEq, Bool.not_eq_true, Bool.decide_eq_true, q_range1, q_range2, $xs,*])
-- _law_due: f12 in Hlp
/-- _law_came (0 _law_joining_now, 1 _law_piece_now, 2 _law_epoch, 3 _law_talk_here, 4 _law_number, 5 _law_part, 6 _law_parts, 7 _law_words_here, 8 _law_told_sum, 9 _law_lost, 10 _law_is_elder) -/
abbrev f16_0 : CSs := .cons (.ret (.tup (.cons (.var 0) (.cons (.ite (.var 10) (.lit (.str "elder")) (.lit (.str "cut"))) (.cons (.lit .none) (.cons (.lit .none) .nil)))))) .nil
abbrev f16_1 : CSs := .cons (.asg (.nm 10) (.and (.cmp .isn (.var 0) (.lit .none)) (.cmp .lt (.tup (.cons (.var 2) (.cons (.var 4) .nil))) (.slice (.var 0) .no (.yes (.lit (.int 2))))))) f16_0
abbrev f16_2 : CSs := .cons (.ret (.tup (.cons (.tup (.cons (.var 2) (.cons (.var 4) (.cons (.var 6) (.cons (.lit (.int 1)) (.cons (.var 7) .nil)))))) (.cons (.lit (.str "begun")) (.cons (.var 9) (.cons (.lit .none) .nil)))))) .nil
abbrev f16_3 : CSs := .cons (.ret (.tup (.cons (.tup (.cons (.var 2) (.cons (.var 4) (.cons (.lit (.int 1)) (.cons (.lit (.int 0)) (.cons (.tup .nil) .nil)))))) (.cons (.lit (.str "whole")) (.cons (.var 9) (.cons (.tup (.cons (.var 3) (.cons (.var 4) (.cons (.var 7) .nil)))) .nil)))))) .nil
abbrev f16_4 : CSs := .cons (.ifs (.cmp .eq (.var 6) (.lit (.int 1))) f16_3 .nil) f16_2
abbrev f16_5 : CSs := .cons (.asg (.nm 9) (.ite (.and (.cmp .isn (.var 0) (.lit .none)) (.cmp .gt (.sub (.var 0) (.lit (.int 3))) (.lit (.int 0)))) (.sub (.var 0) (.lit (.int 1))) (.lit .none))) f16_4
abbrev f16_6 : CSs := .cons (.ifs (.and (.cmp .eq (.var 5) (.lit (.int 0))) (.or (.cmp .is (.var 0) (.lit .none)) (.cmp .gt (.tup (.cons (.var 2) (.cons (.var 4) .nil))) (.slice (.var 0) .no (.yes (.lit (.int 2))))))) f16_5 .nil) f16_1
abbrev f16_7 : CSs := .cons (.ret (.tup (.cons (.tup (.cons (.var 2) (.cons (.var 4) (.cons (.var 6) (.cons (.bin .add (.var 5) (.lit (.int 1))) (.cons (.var 7) .nil)))))) (.cons (.lit (.str "on")) (.cons (.lit .none) (.cons (.lit .none) .nil)))))) .nil
abbrev f16_8 : CSs := .cons (.ret (.tup (.cons (.tup (.cons (.var 2) (.cons (.var 4) (.cons (.var 6) (.cons (.lit (.int 0)) (.cons (.tup .nil) .nil)))))) (.cons (.lit (.str "whole")) (.cons (.lit .none) (.cons (.tup (.cons (.var 3) (.cons (.var 4) (.cons (.var 7) .nil)))) .nil)))))) .nil
abbrev f16_9 : CSs := .cons (.ifs (.cmp .eq (.var 5) (.bin .sub (.var 6) (.lit (.int 1)))) f16_8 .nil) f16_7
abbrev f16_10 : CSs := .cons (.asg (.nm 7) (.bin .add (.sub (.var 0) (.lit (.int 4))) (.var 7))) f16_9
abbrev f16_11 : CSs := .cons (.ifs (.and (.cmp .isn (.var 0) (.lit .none)) (.and (.cmp .gt (.sub (.var 0) (.lit (.int 3))) (.lit (.int 0))) (.cmp .eq (.slice (.var 0) .no (.yes (.lit (.int 4)))) (.tup (.cons (.var 2) (.cons (.var 4) (.cons (.var 6) (.cons (.var 5) .nil)))))))) f16_10 .nil) f16_6
abbrev f16_12 : CSs := .cons (.ret (.tup (.cons (.var 0) (.cons (.lit (.str "sum")) (.cons (.lit .none) (.cons (.lit .none) .nil)))))) .nil
abbrev f16_13 : CSs := .cons (.ifs (.cmp .ne (.var 8) (.call 12 (.cons (.var 1) .nil) .nil [.inl 0])) f16_12 .nil) f16_11
abbrev f16_14 : CSs := .cons (.asg (.tup (.cons (.nm 2) (.cons (.nm 3) (.cons (.nm 4) (.cons (.nm 5) (.cons (.nm 6) (.cons (.nm 7) (.cons (.nm 8) .nil)))))))) (.var 1)) f16_13
abbrev f16 : Df := ⟨2, 11, f16_14⟩
open Joi Hlp
theorem sumEq (x : Pc) : dueOf x.e x.n x.p x.q x.w = Joi.due x := rfl
theorem cam_run {ds : Nat → Option Df} (h12 : ds 12 = some Hlp.f12) (h : ds 16 = some f16) {fuel k : Nat} {st : Sto} {x : Pc} {j : Option Jn} (hx : x.ok) (hj : jok j) : callN ds fuel (k + 2) 16 [.dat (jd j), .dat x.d] st = .ok (.dat (came j x).d) st := by
  have h1 := hx.l
  have hd := due_run h12 (fuel := fuel) (k := k) (st := st) (t := x.t) (rest := [.int x.s]) hx.e hx.n hx.p hx.q hx.w hx.l
  rw [sumEq] at hd
  rw [callN_eq h]
  by_cases c1 : x.s = Joi.due x
  · cases c2 : goesOn j x with
    | true =>
      cases j with
      | none => cases c2
      | some j =>
        have hj : j.w.length ≤ 1000000 := hj
        have c2' := c2
        simp only [goesOn, Bool.and_eq_true, decide_eq_true_eq] at c2'
        obtain ⟨d1, d2, d3, d4, d5⟩ := c2'
        have d6 : ¬ j.l = 0 := by omega
        by_cases c3 : j.l + 1 = j.q
        · have c4 : j.l = j.q - 1 := by omega
          have d7 : 0 < j.q - 1 := by omega
          push_cast [hd, c1, d1, d2, d3, d4, d5, d7, came, c2, part, c3, c4, Out.d, jd, Jn.d, wd, List.map_append, List.map_nil, Int.sub_add_cancel]
        · have c4 : ¬ j.l = j.q - 1 := by omega
          push_cast [hd, c1, d1, d2, d3, d4, d5, d6, came, c2, part, c3, c4, Out.d, jd, Jn.d, wd, List.map_append, List.map_nil]
    | false =>
      by_cases p0 : x.p = 0
      · cases j with
        | none =>
          by_cases c3 : x.q = 1
          · push_cast [hd, c1, came, c2, begins, p0, c3, part, going, Out.d, jd, Jn.d, wd, List.map_append, List.map_nil]
          · have c4 : ¬ 1 = x.q := by omega
            push_cast [hd, c1, came, c2, begins, p0, c3, c4, part, going, Out.d, jd, Jn.d, wd, List.map_append, List.map_nil]
        | some j =>
          have c2' := c2
          simp only [goesOn, p0] at c2'
          by_cases hl : 0 < j.l
          · have hl0 : ¬ j.l = 0 := by omega
            by_cases c5 : j.e < x.e ∨ j.e = x.e ∧ j.n < x.n
            · by_cases c3 : x.q = 1
              · push_cast [hd, c1, came, c2, begins, p0, c3, hl, hl0, c5, part, going, Out.d, jd, Jn.d, wd, List.map_append, List.map_nil, Bool.and_false]
              · have c4 : ¬ 1 = x.q := by omega
                push_cast [hd, c1, came, c2, begins, p0, c3, c4, hl, hl0, c5, part, going, Out.d, jd, Jn.d, wd, List.map_append, List.map_nil, Bool.and_false]
            · by_cases c4 : x.e < j.e ∨ x.e = j.e ∧ x.n < j.n
              · push_cast [hd, c1, came, c2, begins, p0, hl, hl0, c5, c4, Out.d, jd, Jn.d, wd, Bool.and_false]
              · push_cast [hd, c1, came, c2, begins, p0, hl, hl0, c5, c4, Out.d, jd, Jn.d, wd, Bool.and_false]
          · by_cases c5 : j.e < x.e ∨ j.e = x.e ∧ j.n < x.n
            · by_cases c3 : x.q = 1
              · push_cast [hd, c1, came, c2, begins, p0, c3, hl, c5, part, going, Out.d, jd, Jn.d, wd, List.map_append, List.map_nil]
              · have c4 : ¬ 1 = x.q := by omega
                push_cast [hd, c1, came, c2, begins, p0, c3, c4, hl, c5, part, going, Out.d, jd, Jn.d, wd, List.map_append, List.map_nil]
            · by_cases c4 : x.e < j.e ∨ x.e = j.e ∧ x.n < j.n
              · push_cast [hd, c1, came, c2, begins, p0, hl, c5, c4, Out.d, jd, Jn.d, wd]
              · push_cast [hd, c1, came, c2, begins, p0, hl, c5, c4, Out.d, jd, Jn.d, wd]
      · cases j with
        | none => push_cast [hd, c1, came, c2, begins, p0, Out.d, jd, Jn.d, wd]
        | some j =>
          have c2' := c2
          simp only [goesOn] at c2'
          by_cases hl : 0 < j.l
          · have hh : (decide (j.e = x.e) && (decide (j.n = x.n) && (decide (j.q = x.q) && decide (j.l = x.p)))) = false := by
              rw [Bool.eq_false_iff]
              intro hz
              simp only [Bool.and_eq_true, decide_eq_true_eq] at hz
              obtain ⟨a, b, c, d⟩ := hz
              rw [a, b, c, d] at c2'; rw [d] at hl
              simp [hl] at c2'
            by_cases c4 : x.e < j.e ∨ x.e = j.e ∧ x.n < j.n
            · push_cast [hd, c1, came, c2, begins, p0, hl, hh, c4, Out.d, jd, Jn.d, wd]
            · push_cast [hd, c1, came, c2, begins, p0, hl, hh, c4, Out.d, jd, Jn.d, wd]
          · by_cases c4 : x.e < j.e ∨ x.e = j.e ∧ x.n < j.n
            · push_cast [hd, c1, came, c2, begins, p0, hl, c4, Out.d, jd, Jn.d, wd]
            · push_cast [hd, c1, came, c2, begins, p0, hl, c4, Out.d, jd, Jn.d, wd]
  · push_cast [hd, c1, came]
end Cam
end
section
set_option Elab.async false
set_option linter.all false
set_option maxRecDepth 20000
open PySem L2 Pur
namespace Pcs
local macro_rules | `(tactic| push_cast [$xs,*]) => `(tactic| simp (implicitDefEqProofs := false) (disch := (first | assumption | exact ⟨rfl, by decide⟩ | exact okI_of (by omega) | exact mulOk_64 (by omega) (by omega) | exact fdiv_64 (by omega) (by omega) | (simp only [lim_eq, List.length_append, List.length_map, List.length_cons, List.length_nil, List.length_reverse, List.length_take, List.length_drop, List.length_replicate, List.length_range, upTo_len, enumD_len, zipD_len]; omega) | omega | (simp only [shp_sh, sh_n, sh_b, sh_i, sh_s, sh_T, sh_L, sh_ints, List.all_cons, List.all_nil, List.all_append, Bool.and_self, Bool.and_true]; first | done | decide))) only [cTst, cNeg, cNt, cAnd, cOr, cBin2, cBin, cCmp2, cCmp, cIte, cTup, cLst, cSub2, cSub, cSl3, cSl2, cSl, cCall2, cCall, cBi, cIsi, cDict, cComp, cTs, cO, cSeq, cRange, cEnum, cDs3, cDs2, cDs, cKs3, cKs2, cKs, cRs, cPs2, cPs, cNext, cAsg, cPar, cSetRs, cPut4, cPut3, cPut2, cPut, cRet, cIf, cSeqS, cFor, cSetSlot, cApp2, cApp, cExt, cComp7, r_tst, r_neg, r_nt, r_and, r_or, r_bin, r_cmp, r_ite, r_tup, r_lst, r_sub, r_slice, r_call, r_bi, r_isi, r_dict, r_comp, r_Ts, r_yes, r_seq, r_range, r_enum, r_Ds, r_Ks, r_Rs, r_Ps, r_seqS, r_asg, r_par, r_put, r_expr, r_ret, r_ifs, r_for, r_setRs, r_setSlot, r_app, r_ext, r_kcomp, q_var_d, q_var_o, q_var_l, q_var_n, q_tst, q_neg, q_andT, q_andF, q_orT, q_orF, q_bin, q_cmp, q_of, q_subL, q_look, q_subD, q_subF, q_subS, q_sub2, q_sl, q_call, q_up, q_bi, q_isi, q_iteT, q_iteF, q_tsT, q_tsF, q_seq, q_lendD, q_lendF, q_lendS, q_enumT, q_enumL, q_o, q_app, q_ext, q_esc_o, q_escD_o, q_res_o, q_res_l, q_res_d, q_nx, q_rt, q_bk, q_ct, q_ifT, q_ifF, q_put, q_putS, q_putOk, q_P_f, q_P_d, q_P_l, q_P_s, q_set, q_setT, q_setS, q_setTs, q_fr_d, q_fr_o, q_fr_n, q_fr_l, q_lo_d, q_lo_n, q_lo_l, q_tru_b, q_tru_i, q_tru_t, q_tru_l, q_tru_n, q_add, q_sub, q_mul, q_fdiv, q_mod, q_pow, q_addL, q_addT, q_lt, q_le, q_gt, q_ge, q_eqS, q_neS, q_eqI, q_isN, q_isnN, q_isB, q_tsub, q_lsub, q_lenL, q_lenT, q_tupL, q_tupT, q_lstL, q_lstT, q_repr, q_max, q_min, q_kI, q_kS, q_sqL, q_sqT, q_evD, q_evL, q_argN, q_argC, q_arg, q_argD, q_at0, q_at1, q_at2, q_at3, q_run, q_finD, q_finF, q_finN, q_finS, q_finO, q_finL, evTs_nil, evO_no, evDs_nil, evKs_nil, evRs_nil, evPs_nil, exs_nil, ex_retN, ex_pass, ex_brk, ex_cont, ev_var, ev_lit, ev_glob, ev_app, ev_ext, esc_dat, esc_fresh, esc_loc, esc_slot, escD_dat, escD_fresh, escD_slot, res_dat, res_fresh, res_slot, setR_dat, setR_fresh, setR_loc, setR_tup, setT_nm, setT_tup, setTs_nil, setTs_cons, setRs_nil2, freeAt_eq, looseAt_eq, O.bind_ok, List.mapM_cons, List.mapM_nil, Option.bind_eq_bind, Option.bind_some, Option.pure_def, Option.map_some, List.getElem?_cons_succ, List.getElem?_cons_zero, List.length_cons, List.length_nil, Nat.reduceAdd, Nat.reduceSub, Nat.le_refl, and_self, List.replicate_succ, List.replicate_zero, List.append_nil, List.cons_append, List.nil_append, List.set_cons_succ, List.set_cons_zero, List.all_cons, List.all_nil, Bool.and_true, Bool.true_and, Bool.not_true, Bool.not_false, Nat.sub_self, List.append_assoc, RV.weak, r_turn, q_turn, q_turnT, q_turnF, q_wipe0, q_wipe1, q_back0, q_back1, q_lend0, q_unlend0, q_lend1, q_lend2, q_unlend1, q_unlend2, q_un, q_lends_o, q_lends_d, q_lends_l, cTurn, cTurn3, cTurn4, List.getD_cons_succ, List.getD_cons_zero, Option.map_none, q_tup0, q_lst0, q_tup1, q_lst1, q_tup2, q_lst2, q_tup3, q_lst3, q_tup4, q_lst4, q_tup5, q_lst5, q_tup6, q_lst6, q_tup7, q_lst7, q_tup8, q_lst8, q_tup9, q_lst9, q_tup10, q_lst10, q_tup11, q_lst11, q_tup12, q_lst12, le_lim0, lt_lim0, le_lim1, lt_lim1, le_lim2, lt_lim2, le_lim3, lt_lim3, le_lim4, lt_lim4, le_lim5, lt_lim5, le_lim6, lt_lim6, le_lim7, lt_lim7, le_lim8, lt_lim8, le_lim9, lt_lim9, le_lim10, lt_lim10, le_lim11, lt_lim11, le_lim12, lt_lim12, le_lim13, lt_lim13, le_lim14, lt_lim14, le_lim15, lt_lim15, le_lim16, lt_lim16, le_lim17, lt_lim17, le_lim18, lt_lim18, le_lim19, lt_lim19, le_lim20, lt_lim20, decide_true, decide_false, eq_self, r_while, cW1, cW2, q_wT, q_wF, q_wn, ne_I, cLoop, cTurnC, r_forC, r_forN, q_lpn, q_lpc, q_lpb, q_lpr, q_eqD, q_neD, q_at4, q_at5, q_at6, q_at7, q_at8, lt2, gt2, cut_to, cut_from, cut_bt, isi_nt, eqv_T, eqv_L, eqv_S, eqvA_n, eqvA_c, eqvA_nc, eqvA_cn, eqv_I, List.take_succ_cons, List.take_zero, List.drop_succ_cons, List.drop_zero, isN_n, isN_b, isN_i, isN_s, isN_l, isN_t, isi_tt, isi_ll, isi_ii, isi_ss, isi_ib, isi_bi, isi_bb, tru_s, cRev, cMth2, cMth, cZip4, cZip3, cZip2, cZip, cPuti2, cPuti1, cPuti, cAug, r_rev, r_mth, r_zip, r_puti, r_killx, Int.reduceAdd, Int.reduceSub, Int.reduceMul, Int.reducePow, Int.reduceNeg, Int.reduceToNat, Int.reduceLT, Int.reduceLE, Int.reduceGT, Int.reduceGE, Int.reduceEq, Int.reduceDiv, Int.reduceMod, Nat.reduceMul, Nat.reduceLT, Nat.reduceLeDiff, Nat.reduceEqDiff, Int.toNat_natCast, r_aug, q_rng, q_rev, q_mth, q_zipL, q_zipT, q_puti1, q_puti2, q_puti3, q_puti4, q_aug, q_aug2, q_aug3, q_enumS, killE_n, killE_c, kKill_d, kKill_o, kKill_l, kKill_n, kKill_c, q_addS, q_ltT, q_gtT, q_revL, q_revT, q_lenS, q_intI, q_intB, q_augI, q_augSub, q_augT, q_slT, q_slL, List.take_length, not_true_eq_false, not_false_eq_true, Bool.false_and, Bool.and_false, Bool.or_true, Bool.true_or, Bool.or_false, Bool.false_or, ite_true, ite_false, if_true, if_false, cond_true, cond_false, Bool.false_eq_true, upTo_len, q_repL, q_repT1, q_repT, Option.some.injEq, Bool.not_eq_true, Bool.decide_eq_true, q_range1, q_range2, $xs,*])
-- sum_due: f1 in Joi
/-- summed (0 piece) -/
abbrev f19_0 : CSs := .cons (.ret (.bin .add (.slice (.var 0) .no (.yes (.lit (.int 6)))) (.tup (.cons (.call 1 (.cons (.var 0) .nil) .nil [.inl 0]) .nil)))) .nil
abbrev f19 : Df := ⟨1, 1, f19_0⟩
/-- pieces_of (0 letter, 1 epoch, 2 cut, 3 talk, 4 number, 5 words, 6 parts, 7 found, 8 part, 9 own) -/
abbrev f20_0 : CSs := .cons (.ret (.bi .tuple (.cons (.var 7) .nil))) .nil
abbrev f20_1 : CSs := .cons (.kill [8, 9]) .nil
abbrev f20_2 : CSs := .cons (.expr (.app 7 (.call 19 (.cons (.tup (.cons (.var 1) (.cons (.var 3) (.cons (.var 4) (.cons (.var 8) (.cons (.var 6) (.cons (.var 9) (.cons (.lit (.int 0)) .nil)))))))) .nil) .nil [.inl 0]))) f20_1
abbrev f20_3 : CSs := .cons (.asg (.nm 9) (.slice (.var 5) (.yes (.bin .mul (.var 8) (.var 2))) (.yes (.bin .add (.bin .mul (.var 8) (.var 2)) (.var 2))))) f20_2
abbrev f20_4 : CSs := .cons (.for (.nm 8) (.range (.cons (.var 6) .nil)) f20_3) f20_0
abbrev f20_5 : CSs := .cons (.kill [0]) f20_4
abbrev f20_6 : CSs := .cons (.asg (.nm 7) (.lst .nil)) f20_5
abbrev f20_7 : CSs := .cons (.asg (.nm 6) (.bi .max (.cons (.lit (.int 1)) (.cons (.bin .fdiv (.bin .sub (.bin .add (.bi .len (.cons (.var 5) .nil)) (.var 2)) (.lit (.int 1))) (.var 2)) .nil)))) f20_6
abbrev f20_8 : CSs := .cons (.asg (.tup (.cons (.nm 3) (.cons (.nm 4) (.cons (.nm 5) .nil)))) (.var 0)) f20_7
abbrev f20 : Df := ⟨3, 10, f20_8⟩
/-- void_memory (0 pages) -/
abbrev f21_0 : CSs := .cons (.ret (.bin .mul (.tup (.cons (.bin .mul (.tup (.cons (.lit (.int 0)) .nil)) (.glob "SPAN" (.int 8))) .nil)) (.var 0))) .nil
abbrev f21 : Df := ⟨1, 1, f21_0⟩
/-- page_at (0 memory, 1 stretch) -/
abbrev f22_0 : CSs := .cons (.ret (.sub (.var 0) (.sub (.var 1) (.lit (.int 0))))) .nil
abbrev f22_1 : CSs := .cons .never .nil
abbrev f22_2 : CSs := .cons (.ifs (.cmp .ge (.sub (.var 1) (.lit (.int 0))) (.bi .len (.cons (.var 0) .nil))) f22_1 .nil) f22_0
abbrev f22 : Df := ⟨2, 2, f22_2⟩
/-- written (0 memory, 1 stretch, 2 words, 3 number, 4 at, 5 many, 6 page) -/
abbrev f24_0 : CSs := .cons (.ret (.bin .add (.bin .add (.slice (.var 0) .no (.yes (.var 3))) (.tup (.cons (.bin .add (.bin .add (.slice (.var 6) .no (.yes (.var 4))) (.var 2)) (.slice (.var 6) (.yes (.bin .add (.var 4) (.bi .len (.cons (.var 2) .nil)))) .no)) .nil))) (.slice (.var 0) (.yes (.bin .add (.var 3) (.lit (.int 1)))) .no))) .nil
abbrev f24_1 : CSs := .cons .never .nil
abbrev f24_2 : CSs := .cons (.ifs (.cmp .gt (.bi .len (.cons (.var 2) .nil)) (.var 5)) f24_1 .nil) f24_0
abbrev f24_3 : CSs := .cons (.asg (.nm 6) (.call 22 (.cons (.var 0) (.cons (.var 1) .nil)) .nil [.inl 0, .inl 1])) f24_2
abbrev f24_4 : CSs := .cons (.asg (.tup (.cons (.nm 3) (.cons (.nm 4) (.cons (.nm 5) .nil)))) (.var 1)) f24_3
abbrev f24 : Df := ⟨3, 7, f24_4⟩
/-- words_at (0 memory, 1 stretch, 2 page, 3 at, 4 many) -/
abbrev f23_0 : CSs := .cons (.ret (.slice (.call 22 (.cons (.var 0) (.cons (.var 1) .nil)) .nil [.inl 0, .inl 1]) (.yes (.var 3)) (.yes (.bin .add (.var 3) (.var 4))))) .nil
abbrev f23_1 : CSs := .cons (.asg (.tup (.cons (.nm 2) (.cons (.nm 3) (.cons (.nm 4) .nil)))) (.var 1)) f23_0
abbrev f23 : Df := ⟨2, 5, f23_1⟩
open Joi Hlp
theorem summed_run {ds : Nat → Option Df} (h1 : ds 1 = some Joi.f1) (h : ds 19 = some f19) {fuel k : Nat} {st : Sto} {x : Pc} (hx : x.ok) : callN ds fuel (k + 2) 19 [.dat x.d] st = .ok (.dat (Pc.d { x with s := Joi.due x })) st := by
  rw [callN_eq h]
  push_cast [sum_run h1 hx]
theorem pieces_run {ds : Nat → Option Df} (h1 : ds 1 = some Joi.f1) (h2 : ds 19 = some f19) (h : ds 20 = some f20) {fuel k : Nat} {st : Sto} {e n : Int} {t : PyData} {w : List Int} {c : Nat} (a1 : small e) (a2 : small n) (a5 : ∀ i ∈ w, small i) (hl : w.length ≤ 1000) (hc : 0 < c) (hc2 : c ≤ 1000) :
    callN ds fuel (k + 3) 20 [.dat (.tuple [t, .int n, .tuple (w.map .int)]), .dat (.int e), .dat (.int c)] st = .ok (.dat (.tuple ((cutL t n w e c).map Pc.d))) st := by
  have hm := many_le hc hl
  have cm := cut_many (w := w) hc
  have cm : (if (((w.length : Int) + (c : Int) - 1) / (c : Int)) > 1 then (((w.length : Int) + (c : Int) - 1) / (c : Int)) else 1) = (many w c : Int) := by rw [← cm]; omega
  obtain ⟨s', le, es⟩ := forL_inv (t := .nm 8) (f := exs ⟨callN ds fuel (k + 2), fuel⟩ f20_3) (xs := upTo 0 (many w c)) (s := ⟨[.non, .dat (.int e), .dat (.int c), .dat t, .dat (.int n), .dat (.tuple (w.map .int)), .dat (.int (many w c : Nat)), .own [], .non, .non], st⟩)
    (fun i s => s = ⟨[.non, .dat (.int e), .dat (.int c), .dat t, .dat (.int n), .dat (.tuple (w.map .int)), .dat (.int (many w c : Nat)), .own (((List.range i).map fun (k : Nat) => mk e t n k (many w c) ((w.drop (k * c)).take c)).map Pc.d), .non, .non], st⟩) rfl fun j x s hj es => by
      obtain ⟨hlt, rfl⟩ := upTo_get _ _ _ _ hj
      subst es
      have hjc : (j : Int) * (c : Int) = ((j * c : Nat) : Int) := by simp
      have hok : Pc.ok ⟨e, t, n, (j : Int), (many w c : Int), (w.drop (j * c)).take c, 0⟩ := ⟨a1, a2, by show small (j : Int); unfold small; omega, by show small (many w c : Int); unfold small; omega, fun i m => a5 i (List.mem_of_mem_drop (List.mem_of_mem_take m)), by show ((w.drop (j * c)).take c).length ≤ 1000; rw [List.length_take, List.length_drop]; omega⟩
      have md := summed_run h1 h2 (fuel := fuel) (k := k) (st := st) hok
      simp only [Pc.d, wd, List.map_take, List.map_drop] at md
      refine ⟨_, .inl ?_, rfl⟩
      have hb : ((j * c : Nat) : Int) + (c : Int) = ((j * c + c : Nat) : Int) := by omega
      have hcut : cutD (w.map PyData.int) (some ((j * c : Nat) : Int)) (some ((j * c + c : Nat) : Int)) = ((w.map PyData.int).drop (j * c)).take c := by rw [cut_btN]; congr 1; omega
      have hd : dueOf e n j (many w c) ((w.drop (j * c)).take c) = Joi.due ⟨e, t, n, (j : Int), (many w c : Int), (w.drop (j * c)).take c, 0⟩ := rfl
      push_cast [cTurnL, Int.zero_add, hjc, hb, hcut, md, hd, List.range_succ, List.map_append, List.map_cons, List.map_nil, Pc.d, wd, List.map_take, List.map_drop]
  rw [upTo_len] at es
  subst es
  rw [callN_eq h]
  push_cast [List.length_map, cm, le, cutL]
/-- memories -/
abbrev Mem : Type := List (List Int)
abbrev memd (m : Mem) : D := .tuple (m.map wd)
abbrev sd (p a n : Int) : D := .tuple [.int p, .int a, .int n]
def voidM (n : Nat) : Mem := List.replicate n (List.replicate 8 0)
theorem rep_map {α β : Type} (f : α → β) (n : Nat) (x : α) : (List.replicate n x).map f = List.replicate n (f x) := List.map_replicate
theorem repD1 (n : Nat) (d : D) : repD n [d] = List.replicate n d := by
  unfold repD
  induction n with
  | zero => rfl
  | succ n ih => rw [List.replicate_succ, List.flatten_cons, ih, List.replicate_succ]; rfl
theorem mul_tup {d : D} {k : Int} (h : 2 ≤ k ∧ k ≤ 1000) : binD .mul (.tuple [d]) (.int k) = some (.dat (.tuple (repD k.toNat [d]))) := by
  show (if k = 1 then _ else if ([d] : List D) ≠ [] ∧ 2 ≤ k ∧ k ≤ 1000 ∧ ([d] : List D).length ≤ 1000 then _ else _) = _
  rw [if_neg (by omega), if_pos ⟨by simp, h.1, h.2, by simp⟩]
theorem void_run {ds : Nat → Option Df} (h : ds 21 = some f21) {fuel k n : Nat} {st : Sto} (hn : 2 ≤ n ∧ n ≤ 1000) : callN ds fuel (k + 1) 21 [.dat (.int n)] st = .ok (.dat (memd (voidM n))) st := by
  rw [callN_eq h]
  have e1 : repD n [PyData.tuple (repD 8 [PyData.int 0])] = (voidM n).map wd := by
    rw [repD1, repD1]; unfold voidM; rw [rep_map]; rfl
  push_cast [mul_tup (d := .int 0) (k := 8) (by omega), mul_tup (d := .tuple (repD 8 [.int 0])) (k := n) (by omega), show Int.toNat 8 = 8 from rfl, Int.toNat_natCast, e1]
theorem page_run {ds : Nat → Option Df} (h : ds 22 = some f22) {fuel k p : Nat} {st : Sto} {m : Mem} {rest : List D} (hp : p < m.length) (hm : m.length ≤ 100000) : callN ds fuel (k + 1) 22 [.dat (memd m), .dat (.tuple (.int p :: rest))] st = .ok (.dat (wd m[p])) st := by
  rw [callN_eq h]
  have e1 : ¬ (m.length : Int) ≤ (p : Int) := by omega
  have e2 := q_atN (xs := m.map wd) (i := p) (by rw [List.length_map]; exact hp)
  rw [List.getElem_map] at e2
  push_cast [List.length_map, e1, e2]
theorem wordsat_run {ds : Nat → Option Df} (h1 : ds 22 = some f22) (h : ds 23 = some f23) {fuel k p a n : Nat} {st : Sto} {m : Mem} (hp : p < m.length) (hm : m.length ≤ 100000) (ha : a ≤ 100000) (hn : n ≤ 100000) : callN ds fuel (k + 2) 23 [.dat (memd m), .dat (sd p a n)] st = .ok (.dat (wd (((m[p]).drop a).take n))) st := by
  rw [callN_eq h]
  have hb : (a : Int) + (n : Int) = ((a + n : Nat) : Int) := by omega
  have hcut : cutD ((m[p]).map PyData.int) (some (a : Int)) (some ((a + n : Nat) : Int)) = (((m[p]).drop a).take n).map PyData.int := by rw [cut_btN, List.map_take, List.map_drop]; congr 1; omega
  push_cast [page_run h1 hp hm, hb, hcut]
def putM (m : Mem) (p a : Nat) (ws : List Int) : Mem := m.take p ++ [((m.getD p []).take a ++ ws ++ (m.getD p []).drop (a + ws.length))] ++ m.drop (p + 1)
theorem written_run {ds : Nat → Option Df} (h1 : ds 22 = some f22) (h : ds 24 = some f24) {fuel k p a n : Nat} {st : Sto} {m : Mem} {ws : List Int} (hp : p < m.length) (hm : m.length ≤ 100000) (hg : (m[p]).length ≤ 100000) (ha : a ≤ 100000) (hn : ws.length ≤ n) (hn2 : n ≤ 100000) : callN ds fuel (k + 2) 24 [.dat (memd m), .dat (sd p a n), .dat (wd ws)] st = .ok (.dat (memd (putM m p a ws))) st := by
  rw [callN_eq h]
  have e0 : m.getD p [] = m[p] := by rw [List.getD_eq_getElem?_getD, List.getElem?_eq_getElem hp]; rfl
  have e1 : ¬ (n : Int) < (ws.length : Int) := by omega
  have e2 : (a : Int) + (ws.length : Int) = ((a + ws.length : Nat) : Int) := by omega
  have e3 : (p : Int) + 1 = ((p + 1 : Nat) : Int) := by omega
  push_cast [page_run h1 hp hm, List.length_map, e1, e2, e3, cut_toN, cut_fromN, putM, e0, List.map_append, List.map_take, List.map_drop, List.map_cons, List.map_nil, wd, memd]
/-- a piece within bounds -/
structure Gp (x : Pc) : Prop where
  e : 0 ≤ x.e ∧ x.e ≤ 2000000
  n : 0 ≤ x.n ∧ x.n ≤ 2000000
  p : 0 ≤ x.p ∧ x.p ≤ 3000
  q : 0 ≤ x.q ∧ x.q ≤ 3000
  s : 0 ≤ x.s ∧ x.s ≤ 20000
  w : ∀ i ∈ x.w, 0 ≤ i ∧ i ≤ 2000000
  l : x.w.length ≤ 8
  t : Fine 2 59 x.t
theorem Gp.ok {x : Pc} (h : Gp x) : x.ok := by
  have := h.e; have := h.n; have := h.p; have := h.q
  refine ⟨?_, ?_, ?_, ?_, fun i mi => ?_, by have := h.l; omega⟩
  · unfold small; omega
  · unfold small; omega
  · unfold small; omega
  · unfold small; omega
  · have := h.w i mi; unfold small; omega
theorem Gp.fine {x : Pc} (h : Gp x) : Fine 3 700 x.d := by
  have := h.e; have := h.n; have := h.p; have := h.q; have := h.s; have := h.l
  have f1 := Fine.ints (w := x.w) fun i mi => by have := h.w i mi; omega
  exact (FineL.cons (Fine.int32 (i := x.e) (by omega)) (FineL.cons h.t (FineL.cons (Fine.int32 (i := x.n) (by omega)) (FineL.cons (Fine.int32 (i := x.p) (by omega)) (FineL.cons (Fine.int32 (i := x.q) (by omega)) (FineL.cons f1 (FineL.cons (Fine.int32 (i := x.s) (by omega)) FineL.nil))))))).tuple.mono (by decide) (by omega)
theorem mk_gp {e n p q : Int} {t : D} {w : List Int} (he : 0 ≤ e ∧ e ≤ 2000000) (hn : 0 ≤ n ∧ n ≤ 2000000) (hp : 0 ≤ p ∧ p ≤ 3000) (hq : 0 ≤ q ∧ q ≤ 3000) (hw : ∀ i ∈ w, 0 ≤ i ∧ i ≤ 2000000) (hl : w.length ≤ 8) (ht : Fine 2 59 t) : Gp (mk e t n p q w) :=
  ⟨he, hn, hp, hq, by show 0 ≤ dueOf e n p q w ∧ dueOf e n p q w ≤ 20000; unfold dueOf; omega, hw, hl, ht⟩
theorem many_le8 {w : List Int} {c : Nat} (h : w.length ≤ 8) (hc : 1 ≤ c) (hc2 : c ≤ 4) : 1 ≤ many w c ∧ many w c ≤ 8 := by
  unfold many
  rcases (by omega : c = 1 ∨ c = 2 ∨ c = 3 ∨ c = 4) with rfl | rfl | rfl | rfl <;> omega
theorem cut_gp {e n : Int} {t : D} {w : List Int} {c : Nat} (he : 0 ≤ e ∧ e ≤ 2000000) (hn : 0 ≤ n ∧ n ≤ 2000000) (hc : 1 ≤ c) (hc2 : c ≤ 4) (hw : ∀ i ∈ w, 0 ≤ i ∧ i ≤ 2000000) (hl : w.length ≤ 8) (ht : Fine 2 59 t) : (1 ≤ (cutL t n w e c).length ∧ (cutL t n w e c).length ≤ 8) ∧ ∀ x ∈ cutL t n w e c, Gp x ∧ x.s = Joi.due x := by
  have hm := many_le8 (w := w) (c := c) hl hc hc2
  refine ⟨?_, fun x mx => ?_⟩
  · unfold cutL
    rw [List.length_map, List.length_range]
    omega
  · unfold cutL at mx
    obtain ⟨k, mk', rfl⟩ := List.mem_map.mp mx
    have := List.mem_range.mp mk'
    refine ⟨mk_gp he hn (by omega) (by omega) (fun i mi => ?_) (by rw [List.length_take, List.length_drop]; omega) ht, rfl⟩
    exact hw i (List.mem_of_mem_drop (List.mem_of_mem_take mi))
theorem cut_fine {e n : Int} {t : D} {w : List Int} {c : Nat} (he : 0 ≤ e ∧ e ≤ 2000000) (hn : 0 ≤ n ∧ n ≤ 2000000) (hc : 1 ≤ c) (hc2 : c ≤ 4) (hw : ∀ i ∈ w, 0 ≤ i ∧ i ≤ 2000000) (hl : w.length ≤ 8) (ht : Fine 2 59 t) : Fine 4 6000 (.tuple ((cutL t n w e c).map Pc.d)) := by
  obtain ⟨⟨h1, h2⟩, h3⟩ := cut_gp (c := c) he hn hc hc2 hw hl ht
  have := FineL.of (xs := (cutL t n w e c).map Pc.d) (k := 3) (n := 700) fun x m => by
    obtain ⟨y, my, rfl⟩ := List.mem_map.mp m
    exact (h3 y my).1.fine
  rw [List.length_map] at this
  exact this.tuple.mono (by decide) (by omega)
theorem note_fine {n : Int} {t : D} {w : List Int} (hn : 0 ≤ n ∧ n ≤ 2000000) (hw : ∀ i ∈ w, 0 ≤ i ∧ i ≤ 2000000) (hl : w.length ≤ 8) (ht : Fine 2 59 t) : Fine 3 500 (.tuple [t, .int n, wd w]) := by
  have f1 := Fine.ints (w := w) fun i mi => by have := hw i mi; omega
  exact (FineL.cons ht (FineL.cons (Fine.int32 (i := n) (by omega)) (FineL.cons f1 FineL.nil))).tuple.mono (by decide) (by omega)
theorem put_get {m : Mem} {p a : Nat} {ws : List Int} (hp : p < m.length) (ha : a ≤ (m[p]).length) : ∃ h : p < (putM m p a ws).length, (((putM m p a ws)[p]'h).drop a).take ws.length = ws := by
  have e0 : m.getD p [] = m[p] := by rw [List.getD_eq_getElem?_getD, List.getElem?_eq_getElem hp]; rfl
  have hl : (m.take p).length = p := by rw [List.length_take]; omega
  refine ⟨by unfold putM; simp only [List.length_append, List.length_take, List.length_drop, List.length_singleton]; omega, ?_⟩
  have e1 : (putM m p a ws)[p]'(by unfold putM; simp only [List.length_append, List.length_take, List.length_drop, List.length_singleton]; omega) = (m[p]).take a ++ ws ++ (m[p]).drop (a + ws.length) := by
    unfold putM
    rw [e0, List.getElem_append_left (by rw [List.length_append, hl]; simp), List.getElem_append_right (by omega)]
    simp only [hl, Nat.sub_self, List.getElem_singleton]
  rw [e1, List.append_assoc, List.drop_append_of_le_length (by rw [List.length_take]; omega), List.drop_of_length_le (by rw [List.length_take]; omega), List.nil_append, List.take_left' rfl]
end Pcs
end
section
set_option Elab.async false
set_option linter.all false
set_option maxRecDepth 20000
open PySem L2 Pur
namespace Rng
local macro_rules | `(tactic| push_cast [$xs,*]) => `(tactic| simp (implicitDefEqProofs := false) (disch := (first | assumption | exact ⟨rfl, by decide⟩ | exact okI_of (by omega) | exact mulOk_64 (by omega) (by omega) | exact fdiv_64 (by omega) (by omega) | (simp only [lim_eq, List.length_append, List.length_map, List.length_cons, List.length_nil, List.length_reverse, List.length_take, List.length_drop, List.length_replicate, List.length_range, upTo_len, enumD_len, zipD_len]; omega) | omega | (simp only [shp_sh, sh_n, sh_b, sh_i, sh_s, sh_T, sh_L, sh_ints, List.all_cons, List.all_nil, List.all_append, Bool.and_self, Bool.and_true]; first | done | decide))) only [cTst, cNeg, cNt, cAnd, cOr, cBin2, cBin, cCmp2, cCmp, cIte, cTup, cLst, cSub2, cSub, cSl3, cSl2, cSl, cCall2, cCall, cBi, cIsi, cDict, cComp, cTs, cO, cSeq, cRange, cEnum, cDs3, cDs2, cDs, cKs3, cKs2, cKs, cRs, cPs2, cPs, cNext, cAsg, cPar, cSetRs, cPut4, cPut3, cPut2, cPut, cRet, cIf, cSeqS, cFor, cSetSlot, cApp2, cApp, cExt, cComp7, r_tst, r_neg, r_nt, r_and, r_or, r_bin, r_cmp, r_ite, r_tup, r_lst, r_sub, r_slice, r_call, r_bi, r_isi, r_dict, r_comp, r_Ts, r_yes, r_seq, r_range, r_enum, r_Ds, r_Ks, r_Rs, r_Ps, r_seqS, r_asg, r_par, r_put, r_expr, r_ret, r_ifs, r_for, r_setRs, r_setSlot, r_app, r_ext, r_kcomp, q_var_d, q_var_o, q_var_l, q_var_n, q_tst, q_neg, q_andT, q_andF, q_orT, q_orF, q_bin, q_cmp, q_of, q_subL, q_look, q_subD, q_subF, q_subS, q_sub2, q_sl, q_call, q_up, q_bi, q_isi, q_iteT, q_iteF, q_tsT, q_tsF, q_seq, q_lendD, q_lendF, q_lendS, q_enumT, q_enumL, q_o, q_app, q_ext, q_esc_o, q_escD_o, q_res_o, q_res_l, q_res_d, q_nx, q_rt, q_bk, q_ct, q_ifT, q_ifF, q_put, q_putS, q_putOk, q_P_f, q_P_d, q_P_l, q_P_s, q_set, q_setT, q_setS, q_setTs, q_fr_d, q_fr_o, q_fr_n, q_fr_l, q_lo_d, q_lo_n, q_lo_l, q_tru_b, q_tru_i, q_tru_t, q_tru_l, q_tru_n, q_add, q_sub, q_mul, q_fdiv, q_mod, q_pow, q_addL, q_addT, q_lt, q_le, q_gt, q_ge, q_eqS, q_neS, q_eqI, q_isN, q_isnN, q_isB, q_tsub, q_lsub, q_lenL, q_lenT, q_tupL, q_tupT, q_lstL, q_lstT, q_repr, q_max, q_min, q_kI, q_kS, q_sqL, q_sqT, q_evD, q_evL, q_argN, q_argC, q_arg, q_argD, q_at0, q_at1, q_at2, q_at3, q_run, q_finD, q_finF, q_finN, q_finS, q_finO, q_finL, evTs_nil, evO_no, evDs_nil, evKs_nil, evRs_nil, evPs_nil, exs_nil, ex_retN, ex_pass, ex_brk, ex_cont, ev_var, ev_lit, ev_glob, ev_app, ev_ext, esc_dat, esc_fresh, esc_loc, esc_slot, escD_dat, escD_fresh, escD_slot, res_dat, res_fresh, res_slot, setR_dat, setR_fresh, setR_loc, setR_tup, setT_nm, setT_tup, setTs_nil, setTs_cons, setRs_nil2, freeAt_eq, looseAt_eq, O.bind_ok, List.mapM_cons, List.mapM_nil, Option.bind_eq_bind, Option.bind_some, Option.pure_def, Option.map_some, List.getElem?_cons_succ, List.getElem?_cons_zero, List.length_cons, List.length_nil, Nat.reduceAdd, Nat.reduceSub, Nat.le_refl, and_self, List.replicate_succ, List.replicate_zero, List.append_nil, List.cons_append, List.nil_append, List.set_cons_succ, List.set_cons_zero, List.all_cons, List.all_nil, Bool.and_true, Bool.true_and, Bool.not_true, Bool.not_false, Nat.sub_self, List.append_assoc, RV.weak, r_turn, q_turn, q_turnT, q_turnF, q_wipe0, q_wipe1, q_back0, q_back1, q_lend0, q_unlend0, q_lend1, q_lend2, q_unlend1, q_unlend2, q_un, q_lends_o, q_lends_d, q_lends_l, cTurn, cTurn3, cTurn4, List.getD_cons_succ, List.getD_cons_zero, Option.map_none, q_tup0, q_lst0, q_tup1, q_lst1, q_tup2, q_lst2, q_tup3, q_lst3, q_tup4, q_lst4, q_tup5, q_lst5, q_tup6, q_lst6, q_tup7, q_lst7, q_tup8, q_lst8, q_tup9, q_lst9, q_tup10, q_lst10, q_tup11, q_lst11, q_tup12, q_lst12, le_lim0, lt_lim0, le_lim1, lt_lim1, le_lim2, lt_lim2, le_lim3, lt_lim3, le_lim4, lt_lim4, le_lim5, lt_lim5, le_lim6, lt_lim6, le_lim7, lt_lim7, le_lim8, lt_lim8, le_lim9, lt_lim9, le_lim10, lt_lim10, le_lim11, lt_lim11, le_lim12, lt_lim12, le_lim13, lt_lim13, le_lim14, lt_lim14, le_lim15, lt_lim15, le_lim16, lt_lim16, le_lim17, lt_lim17, le_lim18, lt_lim18, le_lim19, lt_lim19, le_lim20, lt_lim20, decide_true, decide_false, eq_self, r_while, cW1, cW2, q_wT, q_wF, q_wn, ne_I, q_addBI, q_subBI, q_addIB, q_subIB, q_strB, q_isnB, cZip, cZip2, cZip3, cZip4, r_zip, q_zipT, cLoop, cTurnC, r_forC, r_forN, q_lpn, q_lpc, q_lpb, q_lpr, q_eqD, q_neD, q_at4, q_at5, q_at6, q_at7, q_at8, lt2, gt2, cut_to, cut_from, cut_bt, isi_nt, eqv_T, eqv_L, eqv_S, eqvA_n, eqvA_c, eqvA_nc, eqvA_cn, eqv_I, List.take_succ_cons, List.take_zero, List.drop_succ_cons, List.drop_zero, isN_n, isN_b, isN_i, isN_s, isN_l, isN_t, isi_tt, isi_ll, isi_ii, isi_ss, isi_ib, isi_bi, isi_bb, tru_s, cRev, cMth2, cMth, cPuti2, cPuti1, cPuti, cAug, r_rev, r_mth, r_puti, r_killx, Int.reduceAdd, Int.reduceSub, Int.reduceMul, Int.reducePow, Int.reduceNeg, Int.reduceToNat, Int.reduceLT, Int.reduceLE, Int.reduceGT, Int.reduceGE, Int.reduceEq, Int.reduceDiv, Int.reduceMod, Nat.reduceMul, Nat.reduceLT, Nat.reduceLeDiff, Nat.reduceEqDiff, Int.toNat_natCast, r_aug, q_rng, q_rev, q_mth, q_zipL, q_puti1, q_puti2, q_puti3, q_puti4, q_aug, q_aug2, q_aug3, q_enumS, killE_n, killE_c, kKill_d, kKill_o, kKill_l, kKill_n, kKill_c, q_addS, q_ltT, q_gtT, q_revL, q_revT, q_lenS, q_intI, q_intB, q_augI, q_augSub, q_augT, q_slT, q_slL, List.take_length, not_true_eq_false, not_false_eq_true, Bool.false_and, Bool.and_false, Bool.or_true, Bool.true_or, Bool.or_false, Bool.false_or, ite_true, ite_false, if_true, if_false, cond_true, cond_false, Bool.false_eq_true, upTo_len, q_repL, q_repT1, q_repT, Option.some.injEq, Bool.not_eq_true, Bool.decide_eq_true, q_range1, q_range2, $xs,*])
/-- count_on (0 count, 1 size, 2 by) -/
abbrev f29_0 : CSs := .cons (.ret (.bin .mod (.bin .add (.var 0) (.var 2)) (.bin .mul (.lit (.int 2)) (.var 1)))) .nil
abbrev f29 : Df := ⟨3, 3, f29_0⟩
/-- count_gap (0 low, 1 high, 2 size) -/
abbrev f30_0 : CSs := .cons (.ret (.bin .mod (.bin .sub (.var 1) (.var 0)) (.bin .mul (.lit (.int 2)) (.var 2)))) .nil
abbrev f30 : Df := ⟨3, 3, f30_0⟩
/-- held_in (0 ring, 1 size, 2 made, 3 done, 4 things) -/
abbrev f32_0 : CSs := .cons (.ret (.call 30 (.cons (.var 3) (.cons (.var 2) (.cons (.var 1) .nil))) .nil [.inl 0, .inl 1, .inl 2])) .nil
abbrev f32_1 : CSs := .cons (.asg (.tup (.cons (.nm 1) (.cons (.nm 2) (.cons (.nm 3) (.cons (.nm 4) .nil))))) (.var 0)) f32_0
abbrev f32 : Df := ⟨1, 5, f32_1⟩
/-- held_places (0 ring, 1 k) -/
abbrev f33_0 : CSs := .cons (.ret (.comp (.nm 1) [1] (.range (.cons (.call 32 (.cons (.var 0) .nil) .nil [.inl 0]) .nil)) .nil (.bin .mod (.call 29 (.cons (.sub (.var 0) (.lit (.int 2))) (.cons (.sub (.var 0) (.lit (.int 0))) .nil)) (.cons (.var 1) .nil) [.inl 0, .inl 1, .inl 2]) (.sub (.var 0) (.lit (.int 0)))))) .nil
abbrev f33 : Df := ⟨1, 2, f33_0⟩
/-- is_number (0 thing) -/
abbrev f27_0 : CSs := .cons (.ret (.and (.isi (.var 0) .int) (.and (.nt (.isi (.var 0) .bool)) (.cmp .ge (.var 0) (.lit (.int 0)))))) .nil
abbrev f27 : Df := ⟨1, 1, f27_0⟩
/-- are_numbers (0 thing, 1 one) -/
abbrev f28_0 : CSs := .cons (.ret (.and (.isi (.var 0) .tuple) (.bi .all (.cons (.comp (.nm 1) [1] (.seq (.var 0)) .nil (.call 27 (.cons (.var 1) .nil) .nil [.inl 0])) .nil)))) .nil
abbrev f28 : Df := ⟨1, 2, f28_0⟩
/-- is_size (0 thing) -/
abbrev f34_0 : CSs := .cons (.ret (.and (.call 28 (.cons (.tup (.cons (.var 0) .nil)) .nil) .nil [.inl 0]) (.cmp .inn (.var 0) (.glob "SIZES" (.tuple [(.int 1), (.int 2), (.int 4), (.int 8)]))))) .nil
abbrev f34 : Df := ⟨1, 1, f34_0⟩
/-- is_ring (0 thing, 1 size, 2 made, 3 done, 4 things, 5 places, 6 place) -/
abbrev f35_0 : CSs := .cons (.ret (.bi .all (.cons (.comp (.nm 6) [6] (.range (.cons (.var 1) .nil)) (.cons (.cmp .nin (.var 6) (.var 5)) .nil) (.cmp .is (.sub (.var 4) (.var 6)) (.lit .none))) .nil))) .nil
abbrev f35_1 : CSs := .cons (.asg (.nm 5) (.call 33 (.cons (.var 0) .nil) .nil [.inl 0])) f35_0
abbrev f35_2 : CSs := .cons (.ret (.lit (.bool false))) .nil
abbrev f35_3 : CSs := .cons (.ifs (.or (.cmp .ge (.bi .max (.cons (.var 2) (.cons (.var 3) .nil))) (.bin .mul (.lit (.int 2)) (.var 1))) (.or (.cmp .gt (.call 32 (.cons (.var 0) .nil) .nil [.inl 0]) (.var 1)) (.or (.nt (.isi (.var 4) .tuple)) (.cmp .ne (.bi .len (.cons (.var 4) .nil)) (.var 1))))) f35_2 .nil) f35_1
abbrev f35_4 : CSs := .cons (.asg (.tup (.cons (.nm 1) (.cons (.nm 2) (.cons (.nm 3) (.cons (.nm 4) .nil))))) (.var 0)) f35_3
abbrev f35_5 : CSs := .cons (.ret (.lit (.bool false))) .nil
abbrev f35_6 : CSs := .cons (.ifs (.or (.nt (.isi (.var 0) .tuple)) (.or (.cmp .ne (.bi .len (.cons (.var 0) .nil)) (.lit (.int 4))) (.or (.nt (.call 34 (.cons (.sub (.var 0) (.lit (.int 0))) .nil) .nil [.inl 0])) (.nt (.call 28 (.cons (.slice (.var 0) (.yes (.lit (.int 1))) (.yes (.lit (.int 3)))) .nil) .nil [.inl 0]))))) f35_5 .nil) f35_4
abbrev f35 : Df := ⟨1, 7, f35_6⟩
/-- things_in (0 ring, 1 place) -/
abbrev f36_0 : CSs := .cons (.ret (.bi .tuple (.cons (.comp (.nm 1) [1] (.seq (.call 33 (.cons (.var 0) .nil) .nil [.inl 0])) .nil (.sub (.sub (.var 0) (.lit (.int 3))) (.var 1))) .nil))) .nil
abbrev f36 : Df := ⟨1, 2, f36_0⟩
/-- void_ring (0 size) -/
abbrev f31_0 : CSs := .cons (.ret (.tup (.cons (.var 0) (.cons (.lit (.int 0)) (.cons (.lit (.int 0)) (.cons (.bin .mul (.tup (.cons (.lit .none) .nil)) (.var 0)) .nil)))))) .nil
abbrev f31 : Df := ⟨1, 1, f31_0⟩
def numB : D → Bool
  | .int i => decide (0 ≤ i)
  | _ => false
theorem num_run {ds : Nat → Option Df} (h : ds 27 = some f27) {fuel k : Nat} {st : Sto} {t : D} : callN ds fuel (k + 1) 27 [.dat t] st = .ok (.dat (.bool (numB t))) st := by
  rw [callN_eq h]
  cases t with
  | int i => push_cast [numB, show isiD (.int i) .int = true from rfl, show isiD (.int i) .bool = false from rfl]
  | bool b => push_cast [numB, show isiD (.bool b) .int = true from rfl, show isiD (.bool b) .bool = true from rfl]
  | none => push_cast [numB, show isiD .none .int = false from rfl]
  | str z => push_cast [numB, show isiD (.str z) .int = false from rfl]
  | list xs => push_cast [numB, show isiD (.list xs) .int = false from rfl]
  | tuple xs => push_cast [numB, show isiD (.tuple xs) .int = false from rfl]
  | dict xs => push_cast [numB, show isiD (.dict xs) .int = false from rfl]
theorem all_bools (bs : List Bool) : biD .all [.list (bs.map .bool)] = some (.dat (.bool (bs.all id))) := by
  have : boolsOf (bs.map PyData.bool) = some bs := by
    induction bs with
    | nil => rfl
    | cons b bs ih => rw [List.map_cons, boolsOf, ih]; rfl
  show (boolsOf (bs.map PyData.bool)).map _ = _
  rw [this]; rfl
theorem fm_map {α β : Type} (g : α → β) (l : List α) : l.filterMap (fun x => some (g x)) = l.map g := by
  induction l with
  | nil => rfl
  | cons a l ih => rw [List.filterMap_cons, ih]; rfl
theorem nums_run {ds : Nat → Option Df} (h1 : ds 27 = some f27) (h : ds 28 = some f28) {fuel k : Nat} {st : Sto} {xs : List D} (hl : xs.length ≤ 100000) : callN ds fuel (k + 2) 28 [.dat (.tuple xs)] st = .ok (.dat (.bool (xs.all numB))) st := by
  rw [callN_eq h]
  push_cast [show isiD (.tuple xs) .tuple = true from rfl]
  rw [compL_pure (g := fun x => some (.bool (numB x))) (fun x mx => ?_) (by rw [List.length_nil, lim_eq]; omega)]
  · have e : xs.filterMap (fun x => some (PyData.bool (numB x))) = (xs.map numB).map .bool := by rw [fm_map, List.map_map]; rfl
    rw [e]
    have a : (xs.map numB).all id = xs.all numB := by rw [List.all_map]; rfl
    push_cast [all_bools, a]
  · push_cast [num_run h1]
theorem shp_ints (xs : List Int) : shp (.list (xs.map .int)) = true := by
  have := ThA.nil (B := 0)
  show (PyData.canLay0 (.list (xs.map .int)) && decide ((PyData.list (xs.map .int)).depth ≤ 64)) = true
  have h1 : PyData.canLayAll0 (xs.map PyData.int) = true := by
    induction xs with
    | nil => rfl
    | cons x xs ih => simp only [List.map_cons, PyData.canLayAll0, PyData.canLay0, ih, Bool.and_self]
  have h2 : PyData.depthAll (xs.map PyData.int) = 0 := by
    induction xs with
    | nil => rfl
    | cons x xs ih =>
      have h1 : PyData.canLayAll0 (xs.map PyData.int) = true := by
        simp only [List.map_cons, PyData.canLayAll0, Bool.and_eq_true] at h1; exact h1.2
      simp only [List.map_cons, PyData.depthAll, PyData.depth, ih h1]; rfl
  have e1 : PyData.canLay0 (.list (xs.map .int)) = true := h1
  have e2 : (PyData.list (xs.map .int)).depth ≤ 64 := by
    show PyData.depthAll _ + 1 ≤ 64
    rw [h2]; decide
  rw [e1, decide_eq_true e2]; rfl
theorem in_ints (i : Int) (xs : List Int) : inD (.int i) (xs.map .int) = some (decide (i ∈ xs)) := by
  unfold inD
  rw [shp_ints]
  have e : shp (.int i) = true := by rfl
  rw [e]
  show some _ = _
  congr 1
  induction xs with
  | nil => rfl
  | cons x xs ih =>
    rw [List.map_cons, List.any_cons, ih, eqv_I]
    simp only [List.mem_cons]
    by_cases h : i = x
    · subst h; simp
    · have : ¬ x = i := fun z => h z.symm
      simp [h, this]
theorem nin_ints (i : Int) (xs : List Int) : cmpD .nin (.int i) (.list (xs.map .int)) = some (!decide (i ∈ xs)) := by
  show (inD (.int i) (xs.map .int)).map _ = _
  rw [in_ints]; rfl
def sizeB : D → Bool
  | .int i => decide (i = 1 ∨ i = 2 ∨ i = 4 ∨ i = 8)
  | _ => false
theorem in_sizes (i : Int) : cmpD .inn (.int i) (.tuple [.int 1, .int 2, .int 4, .int 8]) = some (sizeB (.int i)) := by
  show inD (.int i) ([1, 2, 4, 8].map .int) = _
  rw [in_ints]
  simp [sizeB]
theorem size_run {ds : Nat → Option Df} (h1 : ds 27 = some f27) (h2 : ds 28 = some f28) (h : ds 34 = some f34) {fuel k : Nat} {st : Sto} {t : D} : callN ds fuel (k + 3) 34 [.dat t] st = .ok (.dat (.bool (sizeB t))) st := by
  have e1 := nums_run h1 h2 (fuel := fuel) (k := k) (st := st) (xs := [t]) (by simp)
  rw [callN_eq h]
  cases t with
  | int i =>
    by_cases z : 0 ≤ i
    · push_cast [e1, show ([PyData.int i].all numB) = true by simp [numB, z], in_sizes]
    · push_cast [e1, show ([PyData.int i].all numB) = false by simp [numB]; omega, sizeB]
      simp only [OC.ok.injEq, RV.dat.injEq, PyData.bool.injEq, and_true]
      symm; simp; omega
  | bool b => push_cast [e1, show ([PyData.bool b].all numB) = false from rfl, sizeB]
  | none => push_cast [e1, show ([PyData.none].all numB) = false from rfl, sizeB]
  | str z => push_cast [e1, show ([PyData.str z].all numB) = false from rfl, sizeB]
  | list xs => push_cast [e1, show ([PyData.list xs].all numB) = false from rfl, sizeB]
  | tuple xs => push_cast [e1, show ([PyData.tuple xs].all numB) = false from rfl, sizeB]
  | dict xs => push_cast [e1, show ([PyData.dict xs].all numB) = false from rfl, sizeB]
theorem on_run {ds : Nat → Option Df} (h : ds 29 = some f29) {fuel k : Nat} {st : Sto} {c s b : Int} (hs : 0 < s ∧ s ≤ 8) : callN ds fuel (k + 1) 29 [.dat (.int c), .dat (.int s), .dat (.int b)] st = .ok (.dat (.int ((c + b) % (2 * s)))) st := by
  rw [callN_eq h]
  push_cast [show mulOk 2 s = true from mulOk_64 (by omega) (by omega), show binD .mod (.int (c + b)) (.int (2 * s)) = some (.dat (.int ((c + b) % (2 * s)))) from if_pos (by omega)]
theorem gap_run {ds : Nat → Option Df} (h : ds 30 = some f30) {fuel k : Nat} {st : Sto} {l g s : Int} (hs : 0 < s ∧ s ≤ 8) : callN ds fuel (k + 1) 30 [.dat (.int l), .dat (.int g), .dat (.int s)] st = .ok (.dat (.int ((g - l) % (2 * s)))) st := by
  rw [callN_eq h]
  push_cast [show mulOk 2 s = true from mulOk_64 (by omega) (by omega), show binD .mod (.int (g - l)) (.int (2 * s)) = some (.dat (.int ((g - l) % (2 * s)))) from if_pos (by omega)]
theorem held_run {ds : Nat → Option Df} (h1 : ds 30 = some f30) (h : ds 32 = some f32) {fuel k : Nat} {st : Sto} {s m d : Int} {e : D} (hs : 0 < s ∧ s ≤ 8) : callN ds fuel (k + 2) 32 [.dat (.tuple [.int s, .int m, .int d, e])] st = .ok (.dat (.int ((m - d) % (2 * s)))) st := by
  rw [callN_eq h]
  push_cast [gap_run h1 hs]
def places (s m d : Int) : List Int := (List.range ((m - d) % (2 * s)).toNat).map fun (k : Nat) => (d + (k : Int)) % s
theorem mod_mod2 {x s : Int} : x % (2 * s) % s = x % s := Int.emod_emod_of_dvd x ⟨2, by rw [Int.mul_comm]⟩
theorem places_run {ds : Nat → Option Df} (h1 : ds 30 = some f30) (h2 : ds 32 = some f32) (h3 : ds 29 = some f29) (h : ds 33 = some f33) {fuel k : Nat} {st : Sto} {s m d : Int} {e : D} (hs : 0 < s ∧ s ≤ 8) : callN ds fuel (k + 3) 33 [.dat (.tuple [.int s, .int m, .int d, e])] st = .ok (.fresh ((places s m d).map .int)) st := by
  have hm : (m - d) % (2 * s) < 2 * s := Int.emod_lt_of_pos _ (by omega)
  have hm0 : 0 ≤ (m - d) % (2 * s) := Int.emod_nonneg _ (by omega)
  rw [callN_eq h]
  push_cast [held_run h1 h2 hs]
  rw [compL_pure (g := fun x => match x with | .int k => some (.int ((d + k) % s)) | _ => none) (fun x mx => ?_) (by rw [upTo_len, List.length_nil, lim_eq]; omega)]
  · have e : (upTo 0 ((m - d) % (2 * s)).toNat).filterMap (fun x => match x with | .int k => some (.int ((d + k) % s)) | _ => none) = (places s m d).map PyData.int := by
      rw [upTo_map, List.filterMap_map]
      unfold places
      rw [List.map_map]
      refine (fm_map (fun (k : Nat) => PyData.int ((d + (0 + (k : Int))) % s)) _).trans ?_
      exact List.map_congr_left fun k _ => by rw [Int.zero_add]; rfl
    rw [e]
    push_cast []
  · rw [upTo_map] at mx
    obtain ⟨j, mj, rfl⟩ := List.mem_map.mp mx
    push_cast [Int.zero_add, on_run h3 hs, show binD .mod (.int ((d + (j : Int)) % (2 * s))) (.int s) = some (.dat (.int ((d + (j : Int)) % (2 * s) % s))) from if_pos (by omega), mod_mod2]
def restL (xs : List D) (s : Int) (ps : List Int) : List Bool := ((List.range s.toNat).filter fun (k : Nat) => !decide ((k : Int) ∈ ps)).map fun (k : Nat) => isNoneD (xs.getD k .none)
def tailB : D → D → D → D → Bool
  | .int s, .int m, .int d, .tuple xs => decide (m < 2 * s) && (decide (d < 2 * s) && (decide ((m - d) % (2 * s) ≤ s) && (decide ((xs.length : Int) = s) && (restL xs s (places s m d)).all id)))
  | _, _, _, _ => false
def ringB : D → Bool
  | .tuple [a, b, c, e] => sizeB a && (numB b && (numB c && tailB a b c e))
  | _ => false
theorem ringB_len {xs : List D} (h : xs.length ≠ 4) : ringB (.tuple xs) = false := by
  match xs, h with
  | [], _ => rfl
  | [_], _ => rfl
  | [_, _], _ => rfl
  | [_, _, _], _ => rfl
  | [_, _, _, _], h => exact absurd rfl h
  | _ :: _ :: _ :: _ :: _ :: _, _ => rfl
theorem len4 {xs : List D} (h : xs.length = 4) : ∃ a b c e, xs = [a, b, c, e] := by
  match xs, h with
  | [a, b, c, e], _ => exact ⟨a, b, c, e, rfl⟩
theorem size_int {a : D} (h : sizeB a = true) : ∃ s : Int, a = .int s ∧ (s = 1 ∨ s = 2 ∨ s = 4 ∨ s = 8) := by
  cases a with
  | int s => exact ⟨s, rfl, by simpa [sizeB] using h⟩
  | _ => cases h
theorem num_int {a : D} (h : numB a = true) : ∃ s : Int, a = .int s ∧ 0 ≤ s := by
  cases a with
  | int s => exact ⟨s, rfl, by simpa [numB] using h⟩
  | _ => cases h
theorem filt_map {α β : Type} (p : α → Bool) (g : α → β) (l : List α) : l.filterMap (fun x => if p x = true then some (g x) else none) = (l.filter p).map g := by
  induction l with
  | nil => rfl
  | cons a l ih =>
    rw [List.filterMap_cons, List.filter_cons]
    by_cases h : p a = true
    · rw [if_pos h, if_pos h, List.map_cons, ih]
    · rw [if_neg h, if_neg h, ih]
theorem rest_loop {ds : Nat → Option Df} {fuel k : Nat} {st : Sto} {s : Int} {t e0 e1 e2 : D} {xs : List D} {ps : List Int} (hs : s = 1 ∨ s = 2 ∨ s = 4 ∨ s = 8) (hl : (xs.length : Int) = s) :
    compL (turnF ⟨callN ds fuel k, fuel⟩ (.nm 6) [6] (.cons (.cmp .nin (.var 6) (.var 5)) .nil) (.cmp .is (.sub (.var 4) (.var 6)) (.lit .none))) (upTo 0 s.toNat) [] ⟨[.dat t, .dat e0, .dat e1, .dat e2, .dat (.tuple xs), .own (ps.map .int), .non], st⟩ = .ok ((restL xs s ps).map .bool) ⟨[.dat t, .dat e0, .dat e1, .dat e2, .dat (.tuple xs), .own (ps.map .int), .non], st⟩ := by
  rw [compL_pure (g := fun x => match x with | .int i => if (!decide (i ∈ ps)) = true then some (.bool (isNoneD (xs.getD i.toNat .none))) else none | _ => none) (fun x mx => ?_) (by rw [upTo_len, List.length_nil, lim_eq]; omega)]
  · rw [List.nil_append]
    congr 1
    rw [upTo_map, List.filterMap_map]
    unfold restL
    rw [List.map_map]
    refine Eq.trans ?_ (filt_map (fun k : Nat => !decide ((k : Int) ∈ ps)) (fun k : Nat => PyData.bool (isNoneD (xs.getD k .none))) (List.range s.toNat))
    congr 1
    funext j
    show (if (!decide ((0 + (j : Int)) ∈ ps)) = true then some (PyData.bool (isNoneD (xs.getD (0 + (j : Int)).toNat .none))) else none) = _
    rw [Int.zero_add, Int.toNat_natCast]
  · rw [upTo_map] at mx
    obtain ⟨j, mj, rfl⟩ := List.mem_map.mp mx
    have hj := List.mem_range.mp mj
    have hjl : j < xs.length := by omega
    have ei := q_atN (xs := xs) (i := j) hjl
    have eg : xs.getD j .none = xs[j] := by rw [List.getD_eq_getElem?_getD, List.getElem?_eq_getElem hjl]; rfl
    by_cases hm : (j : Int) ∈ ps
    · push_cast [Int.zero_add, nin_ints, hm]
    · push_cast [Int.zero_add, nin_ints, hm, ei, Int.toNat_natCast, eg]
structure Rn (ds : Nat → Option Df) : Prop where
  h27 : ds 27 = some f27
  h28 : ds 28 = some f28
  h29 : ds 29 = some f29
  h30 : ds 30 = some f30
  h31 : ds 31 = some f31
  h32 : ds 32 = some f32
  h33 : ds 33 = some f33
  h34 : ds 34 = some f34
  h35 : ds 35 = some f35
  h36 : ds 36 = some f36
theorem ring_run {ds : Nat → Option Df} (F : Rn ds) {fuel k n kk : Nat} {st : Sto} {t : D} (ht : Fine kk n t) (hk : kk ≤ 60) (hn : n ≤ 1000000) : callN ds fuel (k + 4) 35 [.dat t] st = .ok (.dat (.bool (ringB t))) st := by
  rw [callN_eq F.h35]
  cases t with
  | int i => push_cast [ringB, show isiD (.int i) .tuple = false from rfl]
  | bool b => push_cast [ringB, show isiD (.bool b) .tuple = false from rfl]
  | none => push_cast [ringB, show isiD .none .tuple = false from rfl]
  | str z => push_cast [ringB, show isiD (.str z) .tuple = false from rfl]
  | list xs => push_cast [ringB, show isiD (.list xs) .tuple = false from rfl]
  | dict xs => push_cast [ringB, show isiD (.dict xs) .tuple = false from rfl]
  | tuple xs =>
    by_cases hl : xs.length = 4
    · have n4 : (((4 : Nat) : Int) = 4) = True := eq_true rfl
      obtain ⟨a, b, c, e, rfl⟩ := len4 hl
      have e1 := size_run F.h27 F.h28 F.h34 (fuel := fuel) (k := k) (st := st) (t := a)
      have e2 := nums_run F.h27 F.h28 (fuel := fuel) (k := k + 1) (st := st) (xs := [b, c]) (by simp)
      have e3 : ([b, c].all numB) = (numB b && numB c) := by simp
      rw [e3] at e2
      have e4 : cutD [a, b, c, e] (some 1) (some 3) = [b, c] := rfl
      cases hs : sizeB a with
      | false => push_cast [n4, e1, hs, ringB]
      | true =>
        obtain ⟨s, rfl, hs4⟩ := size_int hs
        cases hb : numB b with
        | false => push_cast [n4, e1, hs, e4, e2, hb, ringB]
        | true =>
          cases hc : numB c with
          | false => push_cast [n4, e1, hs, e4, e2, hb, hc, ringB]
          | true =>
            obtain ⟨m, rfl, hm0⟩ := num_int hb
            obtain ⟨d, rfl, hd0⟩ := num_int hc
            have hs8 : 0 < s ∧ s ≤ 8 := by omega
            have hM : mulOk 2 s = true := mulOk_64 (by omega) (by omega)
            have e5 := held_run F.h30 F.h32 (fuel := fuel) (k := k + 1) (st := st) (s := s) (m := m) (d := d) (e := e) hs8
            have e6 := places_run F.h30 F.h32 F.h29 F.h33 (fuel := fuel) (k := k) (st := st) (s := s) (m := m) (d := d) (e := e) hs8
            by_cases c1 : m < 2 * s ∧ d < 2 * s
            · have c1' : ¬ 2 * s ≤ (if d > m then d else m) := by split <;> omega
              by_cases c2 : (m - d) % (2 * s) ≤ s
              · have c2' : ¬ s < (m - d) % (2 * s) := by omega
                cases e with
                | tuple xs =>
                  by_cases c3 : (xs.length : Int) = s
                  · have e7 := rest_loop (ds := ds) (fuel := fuel) (k := k + 3) (st := st) (t := .tuple [.int s, .int m, .int d, .tuple xs]) (e0 := .int s) (e1 := .int m) (e2 := .int d) (ps := places s m d) hs4 c3
                    push_cast [n4, e1, hs, e4, e2, hb, hc, ringB, hM, c1', c2', e5, c3, e6, e7, tailB, c1.1, c1.2, c2, all_bools, show isiD (.tuple xs) .tuple = true from rfl]
                  · push_cast [n4, e1, hs, e4, e2, hb, hc, ringB, hM, c1', c2', e5, c3, tailB, c1.1, c1.2, c2, show isiD (.tuple xs) .tuple = true from rfl]
                | int i => push_cast [n4, e1, hs, e4, e2, hb, hc, ringB, hM, c1', c2', e5, tailB, show isiD (.int i) .tuple = false from rfl]
                | bool b => push_cast [n4, e1, hs, e4, e2, hb, hc, ringB, hM, c1', c2', e5, tailB, show isiD (.bool b) .tuple = false from rfl]
                | none => push_cast [n4, e1, hs, e4, e2, hb, hc, ringB, hM, c1', c2', e5, tailB, show isiD .none .tuple = false from rfl]
                | str z => push_cast [n4, e1, hs, e4, e2, hb, hc, ringB, hM, c1', c2', e5, tailB, show isiD (.str z) .tuple = false from rfl]
                | list xs => push_cast [n4, e1, hs, e4, e2, hb, hc, ringB, hM, c1', c2', e5, tailB, show isiD (.list xs) .tuple = false from rfl]
                | dict xs => push_cast [n4, e1, hs, e4, e2, hb, hc, ringB, hM, c1', c2', e5, tailB, show isiD (.dict xs) .tuple = false from rfl]
              · have c2' : s < (m - d) % (2 * s) := by omega
                have tf : tailB (.int s) (.int m) (.int d) e = false := by
                  cases e with
                  | tuple xs => simp [tailB, c2]
                  | _ => rfl
                push_cast [n4, e1, hs, e4, e2, hb, hc, ringB, hM, c1', c2', e5, tf]
            · have c1' : 2 * s ≤ (if d > m then d else m) := by split <;> omega
              have tf : tailB (.int s) (.int m) (.int d) e = false := by
                cases e with
                | tuple xs =>
                  unfold tailB
                  rcases (by omega : ¬ m < 2 * s ∨ ¬ d < 2 * s) with z | z <;> simp [z]
                | _ => rfl
              push_cast [n4, e1, hs, e4, e2, hb, hc, ringB, hM, c1', tf]
    · have hl' : ¬ (xs.length : Int) = 4 := by omega
      push_cast [hl', ringB_len hl, show isiD (.tuple xs) .tuple = true from rfl]
end Rng
end
section
set_option Elab.async false
set_option linter.all false
set_option maxRecDepth 20000
open PySem L2 Pur
namespace Kin
local macro_rules | `(tactic| push_cast [$xs,*]) => `(tactic| simp (implicitDefEqProofs := false) (disch := (first | assumption | exact ⟨rfl, by decide⟩ | exact okI_of (by omega) | exact mulOk_64 (by omega) (by omega) | exact fdiv_64 (by omega) (by omega) | (simp only [lim_eq, List.length_append, List.length_map, List.length_cons, List.length_nil, List.length_reverse, List.length_take, List.length_drop, List.length_replicate, List.length_range, upTo_len, enumD_len, zipD_len]; omega) | omega | (simp only [shp_sh, sh_n, sh_b, sh_i, sh_s, sh_T, sh_L, sh_ints, List.all_cons, List.all_nil, List.all_append, Bool.and_self, Bool.and_true]; first | done | decide))) only [cTst, cNeg, cNt, cAnd, cOr, cBin2, cBin, cCmp2, cCmp, cIte, cTup, cLst, cSub2, cSub, cSl3, cSl2, cSl, cCall2, cCall, cBi, cIsi, cDict, cComp, cTs, cO, cSeq, cRange, cEnum, cDs3, cDs2, cDs, cKs3, cKs2, cKs, cRs, cPs2, cPs, cNext, cAsg, cPar, cSetRs, cPut4, cPut3, cPut2, cPut, cRet, cIf, cSeqS, cFor, cSetSlot, cApp2, cApp, cExt, cComp7, r_tst, r_neg, r_nt, r_and, r_or, r_bin, r_cmp, r_ite, r_tup, r_lst, r_sub, r_slice, r_call, r_bi, r_isi, r_dict, r_comp, r_Ts, r_yes, r_seq, r_range, r_enum, r_Ds, r_Ks, r_Rs, r_Ps, r_seqS, r_asg, r_par, r_put, r_expr, r_ret, r_ifs, r_for, r_setRs, r_setSlot, r_app, r_ext, r_kcomp, q_var_d, q_var_o, q_var_l, q_var_n, q_tst, q_neg, q_andT, q_andF, q_orT, q_orF, q_bin, q_cmp, q_of, q_subL, q_look, q_subD, q_subF, q_subS, q_sub2, q_sl, q_call, q_up, q_bi, q_isi, q_iteT, q_iteF, q_tsT, q_tsF, q_seq, q_lendD, q_lendF, q_lendS, q_enumT, q_enumL, q_o, q_app, q_ext, q_esc_o, q_escD_o, q_res_o, q_res_l, q_res_d, q_nx, q_rt, q_bk, q_ct, q_ifT, q_ifF, q_put, q_putS, q_putOk, q_P_f, q_P_d, q_P_l, q_P_s, q_set, q_setT, q_setS, q_setTs, q_fr_d, q_fr_o, q_fr_n, q_fr_l, q_lo_d, q_lo_n, q_lo_l, q_tru_b, q_tru_i, q_tru_t, q_tru_l, q_tru_n, q_add, q_sub, q_mul, q_fdiv, q_mod, q_pow, q_addL, q_addT, q_lt, q_le, q_gt, q_ge, q_eqS, q_neS, q_eqI, q_isN, q_isnN, q_isB, q_tsub, q_lsub, q_lenL, q_lenT, q_tupL, q_tupT, q_lstL, q_lstT, q_repr, q_max, q_min, q_kI, q_kS, q_sqL, q_sqT, q_evD, q_evL, q_argN, q_argC, q_arg, q_argD, q_at0, q_at1, q_at2, q_at3, q_run, q_finD, q_finF, q_finN, q_finS, q_finO, q_finL, evTs_nil, evO_no, evDs_nil, evKs_nil, evRs_nil, evPs_nil, exs_nil, ex_retN, ex_pass, ex_brk, ex_cont, ev_var, ev_lit, ev_glob, ev_app, ev_ext, esc_dat, esc_fresh, esc_loc, esc_slot, escD_dat, escD_fresh, escD_slot, res_dat, res_fresh, res_slot, setR_dat, setR_fresh, setR_loc, setR_tup, setT_nm, setT_tup, setTs_nil, setTs_cons, setRs_nil2, freeAt_eq, looseAt_eq, O.bind_ok, List.mapM_cons, List.mapM_nil, Option.bind_eq_bind, Option.bind_some, Option.pure_def, Option.map_some, List.getElem?_cons_succ, List.getElem?_cons_zero, List.length_cons, List.length_nil, Nat.reduceAdd, Nat.reduceSub, Nat.le_refl, and_self, List.replicate_succ, List.replicate_zero, List.append_nil, List.cons_append, List.nil_append, List.set_cons_succ, List.set_cons_zero, List.all_cons, List.all_nil, Bool.and_true, Bool.true_and, Bool.not_true, Bool.not_false, Nat.sub_self, List.append_assoc, RV.weak, r_turn, q_turn, q_turnT, q_turnF, q_wipe0, q_wipe1, q_back0, q_back1, q_lend0, q_unlend0, q_lend1, q_lend2, q_unlend1, q_unlend2, q_un, q_lends_o, q_lends_d, q_lends_l, cTurn, cTurn3, cTurn4, List.getD_cons_succ, List.getD_cons_zero, Option.map_none, q_tup0, q_lst0, q_tup1, q_lst1, q_tup2, q_lst2, q_tup3, q_lst3, q_tup4, q_lst4, q_tup5, q_lst5, q_tup6, q_lst6, q_tup7, q_lst7, q_tup8, q_lst8, q_tup9, q_lst9, q_tup10, q_lst10, q_tup11, q_lst11, q_tup12, q_lst12, le_lim0, lt_lim0, le_lim1, lt_lim1, le_lim2, lt_lim2, le_lim3, lt_lim3, le_lim4, lt_lim4, le_lim5, lt_lim5, le_lim6, lt_lim6, le_lim7, lt_lim7, le_lim8, lt_lim8, le_lim9, lt_lim9, le_lim10, lt_lim10, le_lim11, lt_lim11, le_lim12, lt_lim12, le_lim13, lt_lim13, le_lim14, lt_lim14, le_lim15, lt_lim15, le_lim16, lt_lim16, le_lim17, lt_lim17, le_lim18, lt_lim18, le_lim19, lt_lim19, le_lim20, lt_lim20, decide_true, decide_false, eq_self, r_while, cW1, cW2, q_wT, q_wF, q_wn, ne_I, q_maxT, intsOf_map, cCh1, cCh2, cCh3, r_chain, q_ch1, q_ch2T, q_ch2F, q_ch4, q_addBI, q_subBI, q_addIB, q_subIB, q_strB, q_isnB, cZip, cZip2, cZip3, cZip4, r_zip, q_zipT, cLoop, cTurnC, r_forC, r_forN, q_lpn, q_lpc, q_lpb, q_lpr, q_eqD, q_neD, q_at4, q_at5, q_at6, q_at7, q_at8, lt2, gt2, cut_to, cut_from, cut_bt, isi_nt, eqv_T, eqv_L, eqv_S, eqvA_n, eqvA_c, eqvA_nc, eqvA_cn, eqv_I, List.take_succ_cons, List.take_zero, List.drop_succ_cons, List.drop_zero, isN_n, isN_b, isN_i, isN_s, isN_l, isN_t, isi_tt, isi_ll, isi_ii, isi_ss, isi_ib, isi_bi, isi_bb, tru_s, cRev, cMth2, cMth, cPuti2, cPuti1, cPuti, cAug, r_rev, r_mth, r_puti, r_killx, Int.reduceAdd, Int.reduceSub, Int.reduceMul, Int.reducePow, Int.reduceNeg, Int.reduceToNat, Int.reduceLT, Int.reduceLE, Int.reduceGT, Int.reduceGE, Int.reduceEq, Int.reduceDiv, Int.reduceMod, Nat.reduceMul, Nat.reduceLT, Nat.reduceLeDiff, Nat.reduceEqDiff, Int.toNat_natCast, r_aug, q_rng, q_rev, q_mth, q_zipL, q_puti1, q_puti2, q_puti3, q_puti4, q_aug, q_aug2, q_aug3, q_enumS, killE_n, killE_c, kKill_d, kKill_o, kKill_l, kKill_n, kKill_c, q_addS, q_ltT, q_gtT, q_revL, q_revT, q_lenS, q_intI, q_intB, q_augI, q_augSub, q_augT, q_slT, q_slL, List.take_length, not_true_eq_false, not_false_eq_true, Bool.false_and, Bool.and_false, Bool.or_true, Bool.true_or, Bool.or_false, Bool.false_or, ite_true, ite_false, if_true, if_false, cond_true, cond_false, Bool.false_eq_true, upTo_len, q_repL, q_repT1, q_repT, Option.some.injEq, Bool.not_eq_true, Bool.decide_eq_true, q_range1, q_range2, $xs,*])
-- is_number: f27 in Rng
-- are_numbers: f28 in Rng
/-- is_word (0 thing, 1 sign) -/
abbrev f50_0 : CSs := .cons (.ret (.bi .all (.cons (.comp (.nm 1) [1] (.seq (.var 0)) .nil (.cmp .inn (.var 1) (.glob "LETTERS" (.str "abcdefghijklmnopqrstuvwxyz")))) .nil))) .nil
abbrev f50_1 : CSs := .cons (.ret (.lit (.bool false))) .nil
abbrev f50_2 : CSs := .cons (.ifs (.or (.nt (.isi (.var 0) .str)) (.nt (.chain .le .le (.lit (.int 1)) (.bi .len (.cons (.var 0) .nil)) (.glob "MOST_LETTERS" (.int 8))))) f50_1 .nil) f50_0
abbrev f50 : Df := ⟨1, 2, f50_2⟩
/-- is_half (0 thing) -/
abbrev f51_0 : CSs := .cons (.ret (.and (.cmp .lt (.sub (.var 0) (.lit (.int 0))) (.lit (.int 2))) (.call 50 (.cons (.sub (.var 0) (.lit (.int 1))) .nil) .nil [.inl 0]))) .nil
abbrev f51_1 : CSs := .cons (.ret (.lit (.bool false))) .nil
abbrev f51_2 : CSs := .cons (.ifs (.or (.nt (.isi (.var 0) .tuple)) (.or (.cmp .ne (.bi .len (.cons (.var 0) .nil)) (.lit (.int 2))) (.nt (.call 27 (.cons (.sub (.var 0) (.lit (.int 0))) .nil) .nil [.inl 0])))) f51_1 .nil) f51_0
abbrev f51 : Df := ⟨1, 1, f51_2⟩
/-- is_talk (0 thing) -/
abbrev f52_0 : CSs := .cons (.ret (.and (.call 51 (.cons (.sub (.var 0) (.lit (.int 0))) .nil) .nil [.inl 0]) (.and (.call 51 (.cons (.sub (.var 0) (.lit (.int 1))) .nil) .nil [.inl 0]) (.call 50 (.cons (.sub (.var 0) (.lit (.int 2))) .nil) .nil [.inl 0])))) .nil
abbrev f52_1 : CSs := .cons (.ret (.lit (.bool false))) .nil
abbrev f52_2 : CSs := .cons (.ifs (.or (.nt (.isi (.var 0) .tuple)) (.cmp .ne (.bi .len (.cons (.var 0) .nil)) (.lit (.int 3)))) f52_1 .nil) f52_0
abbrev f52 : Df := ⟨1, 1, f52_2⟩
/-- is_piece (0 thing, 1 epoch, 2 talk, 3 number, 4 part, 5 parts, 6 words, 7 given) -/
abbrev f53_0 : CSs := .cons (.ret (.and (.cmp .lt (.var 4) (.var 5)) (.call 28 (.cons (.var 6) .nil) .nil [.inl 0]))) .nil
abbrev f53_1 : CSs := .cons (.ret (.lit (.bool false))) .nil
abbrev f53_2 : CSs := .cons (.ifs (.or (.nt (.call 28 (.cons (.tup (.cons (.var 1) (.cons (.var 3) (.cons (.var 4) (.cons (.var 5) (.cons (.var 7) .nil)))))) .nil) .nil [.inl 0])) (.nt (.call 52 (.cons (.var 2) .nil) .nil [.inl 0]))) f53_1 .nil) f53_0
abbrev f53_3 : CSs := .cons (.asg (.tup (.cons (.nm 1) (.cons (.nm 2) (.cons (.nm 3) (.cons (.nm 4) (.cons (.nm 5) (.cons (.nm 6) (.cons (.nm 7) .nil)))))))) (.var 0)) f53_2
abbrev f53_4 : CSs := .cons (.ret (.lit (.bool false))) .nil
abbrev f53_5 : CSs := .cons (.ifs (.or (.nt (.isi (.var 0) .tuple)) (.cmp .ne (.bi .len (.cons (.var 0) .nil)) (.lit (.int 7)))) f53_4 .nil) f53_3
abbrev f53 : Df := ⟨1, 8, f53_5⟩
open Rng
def letF : D → Option D
  | .str w => some (.bool (decide (97 ≤ w.cps.getD 0 0 ∧ w.cps.getD 0 0 ≤ 122)))
  | _ => none
def wordB : D → Bool
  | .str z => decide (1 ≤ z.length ∧ z.length ≤ 8) && z.cps.toList.all (fun c => decide (97 ≤ c ∧ c ≤ 122))
  | _ => false
theorem letters_mem (c : Nat) : (c ∈ (Str.ofString "abcdefghijklmnopqrstuvwxyz").cps.toList) ↔ (97 ≤ c ∧ c ≤ 122) := by
  have e : (Str.ofString "abcdefghijklmnopqrstuvwxyz").cps.toList = [97, 98, 99, 100, 101, 102, 103, 104, 105, 106, 107, 108, 109, 110, 111, 112, 113, 114, 115, 116, 117, 118, 119, 120, 121, 122] := by decide +kernel
  rw [e]
  simp only [List.mem_cons, List.not_mem_nil, or_false]
  omega
theorem in_letters (c : Nat) : cmpD .inn (.str ⟨#[c]⟩) (.str "abcdefghijklmnopqrstuvwxyz") = some (decide (97 ≤ c ∧ c ≤ 122)) := by
  show (if (⟨#[c]⟩ : Str).length = 1 then some (decide ((#[c] : Array Nat).getD 0 0 ∈ (Str.ofString "abcdefghijklmnopqrstuvwxyz").cps.toList)) else none) = _
  have h1 : (⟨#[c]⟩ : Str).length = 1 := rfl
  refine (if_pos h1).trans ?_
  congr 1
  exact decide_eq_decide.mpr (letters_mem c)
theorem word_run {ds : Nat → Option Df} (h : ds 50 = some f50) {fuel k B kk n : Nat} {st : Sto} {t : D} (ht : Thg B kk n t) (hn : n ≤ 1000000) : callN ds fuel (k + 1) 50 [.dat t] st = .ok (.dat (.bool (wordB t))) st := by
  rw [callN_eq h]
  cases t with
  | int i => push_cast [wordB, show isiD (.int i) .str = false from rfl]
  | bool b => push_cast [wordB, show isiD (.bool b) .str = false from rfl]
  | none => push_cast [wordB, show isiD .none .str = false from rfl]
  | list xs => push_cast [wordB, show isiD (.list xs) .str = false from rfl]
  | tuple xs => push_cast [wordB, show isiD (.tuple xs) .str = false from rfl]
  | dict xs => push_cast [wordB, show isiD (.dict xs) .str = false from rfl]
  | str z =>
    have hz : z.length ≤ n := ht.wt
    have hlen : biD .len [.str z] = some (.dat (.int z.length)) := if_pos (lim_le (by omega))
    by_cases c1 : (1 : Int) ≤ (z.length : Int)
    · by_cases c2 : (z.length : Int) ≤ 8
      · have hl8 : z.cps.toList.length ≤ 8 := by
          have : z.cps.toList.length = z.length := by rw [Array.length_toList]; rfl
          omega
        have e0 : (decide (1 ≤ z.length ∧ z.length ≤ 8)) = true := decide_eq_true (by omega)
        push_cast [show isiD (.str z) .str = true from rfl, hlen, c1, c2, show seqD (.str z) = some (z.cps.toList.map fun c => .str ⟨#[c]⟩) from rfl]
        rw [compL_pure (g := letF) (fun x mx => ?_) (by rw [List.length_map, List.length_nil, lim_eq]; omega)]
        · have e : (z.cps.toList.map fun c => PyData.str ⟨#[c]⟩).filterMap letF = (z.cps.toList.map fun c => decide (97 ≤ c ∧ c ≤ 122)).map .bool := by
            rw [List.filterMap_map, List.map_map]
            exact fm_map (fun c : Nat => PyData.bool (decide (97 ≤ c ∧ c ≤ 122))) _
          rw [e]
          have a : (z.cps.toList.map fun c => decide (97 ≤ c ∧ c ≤ 122)).all id = z.cps.toList.all (fun c => decide (97 ≤ c ∧ c ≤ 122)) := by rw [List.all_map]; rfl
          push_cast [all_bools, a, wordB, e0]
        · obtain ⟨c, mc, rfl⟩ := List.mem_map.mp mx
          push_cast [in_letters, letF]
          rfl
      · have e0 : (decide (1 ≤ z.length ∧ z.length ≤ 8)) = false := decide_eq_false (by omega)
        push_cast [show isiD (.str z) .str = true from rfl, hlen, c1, c2, wordB, e0]
    · have e0 : (decide (1 ≤ z.length ∧ z.length ≤ 8)) = false := decide_eq_false (by omega)
      push_cast [show isiD (.str z) .str = true from rfl, hlen, c1, wordB, e0]
def lt2B : D → Bool
  | .int i => decide (i < 2)
  | _ => false
def halfB : D → Bool
  | .tuple [a, b] => numB a && (lt2B a && wordB b)
  | _ => false
theorem len2 {xs : List D} (h : xs.length = 2) : ∃ a b, xs = [a, b] := by
  match xs, h with
  | [a, b], _ => exact ⟨a, b, rfl⟩
theorem len3 {xs : List D} (h : xs.length = 3) : ∃ a b c, xs = [a, b, c] := by
  match xs, h with
  | [a, b, c], _ => exact ⟨a, b, c, rfl⟩
theorem len7 {xs : List D} (h : xs.length = 7) : ∃ a b c d e f g, xs = [a, b, c, d, e, f, g] := by
  match xs, h with
  | [a, b, c, d, e, f, g], _ => exact ⟨a, b, c, d, e, f, g, rfl⟩
theorem halfB_len {xs : List D} (h : xs.length ≠ 2) : halfB (.tuple xs) = false := by
  match xs, h with
  | [], _ => rfl
  | [_], _ => rfl
  | [_, _], h => exact absurd rfl h
  | _ :: _ :: _ :: _, _ => rfl
theorem halfB_num {a b : D} (h : numB a = false) : halfB (.tuple [a, b]) = false := by
  show (numB a && (lt2B a && wordB b)) = false
  rw [h]; rfl
theorem thgMem {B k n : Nat} {xs : List D} {x : D} (h : Thg B k n (.tuple xs)) (m : x ∈ xs) : Thg B k n x := by
  obtain ⟨k1, hx⟩ := h.items
  obtain ⟨i, hi, rfl⟩ := List.mem_iff_getElem.mp m
  obtain ⟨w, hg, _, hw⟩ := hx.get hi
  exact hg.mono (Nat.le_refl _) (by omega) (by omega)
structure Km (ds : Nat → Option Df) : Prop where
  h27 : ds 27 = some Rng.f27
  h28 : ds 28 = some Rng.f28
  h50 : ds 50 = some f50
  h51 : ds 51 = some f51
  h52 : ds 52 = some f52
structure Kn (ds : Nat → Option Df) : Prop extends Km ds where
  h53 : ds 53 = some f53
theorem half_run {ds : Nat → Option Df} (F : Km ds) {fuel k B kk n : Nat} {st : Sto} {t : D} (ht : Thg B kk n t) (hn : n ≤ 1000000) : callN ds fuel (k + 2) 51 [.dat t] st = .ok (.dat (.bool (halfB t))) st := by
  rw [callN_eq F.h51]
  cases t with
  | int i => push_cast [halfB, show isiD (.int i) .tuple = false from rfl]
  | bool b => push_cast [halfB, show isiD (.bool b) .tuple = false from rfl]
  | none => push_cast [halfB, show isiD .none .tuple = false from rfl]
  | str z => push_cast [halfB, show isiD (.str z) .tuple = false from rfl]
  | list xs => push_cast [halfB, show isiD (.list xs) .tuple = false from rfl]
  | dict xs => push_cast [halfB, show isiD (.dict xs) .tuple = false from rfl]
  | tuple xs =>
    by_cases hl : xs.length = 2
    · have n2 : (((2 : Nat) : Int) = 2) = True := eq_true rfl
      obtain ⟨a, b, rfl⟩ := len2 hl
      have e1 := num_run F.h27 (fuel := fuel) (k := k) (st := st) (t := a)
      have e2 := word_run F.h50 (fuel := fuel) (k := k) (st := st) (t := b) (thgMem ht (by simp)) hn
      cases ha : numB a with
      | false => push_cast [n2, e1, ha, halfB_num ha]
      | true =>
        obtain ⟨i, rfl, hi⟩ := num_int ha
        by_cases c : i < 2
        · push_cast [n2, e1, ha, c, e2, halfB, lt2B, ha]
        · push_cast [n2, e1, ha, c, halfB, lt2B]
    · have hl' : ¬ (xs.length : Int) = 2 := by omega
      push_cast [hl', halfB_len hl, show isiD (.tuple xs) .tuple = true from rfl]
def talkB : D → Bool
  | .tuple [a, b, c] => halfB a && (halfB b && wordB c)
  | _ => false
theorem talkB_len {xs : List D} (h : xs.length ≠ 3) : talkB (.tuple xs) = false := by
  match xs, h with
  | [], _ => rfl
  | [_], _ => rfl
  | [_, _], _ => rfl
  | [_, _, _], h => exact absurd rfl h
  | _ :: _ :: _ :: _ :: _, _ => rfl
theorem talkk_run {ds : Nat → Option Df} (F : Km ds) {fuel k B kk n : Nat} {st : Sto} {t : D} (ht : Thg B kk n t) (hn : n ≤ 1000000) : callN ds fuel (k + 3) 52 [.dat t] st = .ok (.dat (.bool (talkB t))) st := by
  rw [callN_eq F.h52]
  cases t with
  | int i => push_cast [talkB, show isiD (.int i) .tuple = false from rfl]
  | bool b => push_cast [talkB, show isiD (.bool b) .tuple = false from rfl]
  | none => push_cast [talkB, show isiD .none .tuple = false from rfl]
  | str z => push_cast [talkB, show isiD (.str z) .tuple = false from rfl]
  | list xs => push_cast [talkB, show isiD (.list xs) .tuple = false from rfl]
  | dict xs => push_cast [talkB, show isiD (.dict xs) .tuple = false from rfl]
  | tuple xs =>
    by_cases hl : xs.length = 3
    · have n3 : (((3 : Nat) : Int) = 3) = True := eq_true rfl
      obtain ⟨a, b, c, rfl⟩ := len3 hl
      have e1 := half_run F (fuel := fuel) (k := k) (st := st) (t := a) (thgMem ht (by simp)) hn
      have e2 := half_run F (fuel := fuel) (k := k) (st := st) (t := b) (thgMem ht (by simp)) hn
      have e3 := word_run F.h50 (fuel := fuel) (k := k + 1) (st := st) (t := c) (thgMem ht (by simp)) hn
      cases ha : halfB a with
      | false => push_cast [n3, e1, ha, talkB]
      | true =>
        cases hb : halfB b with
        | false => push_cast [n3, e1, ha, e2, hb, talkB]
        | true => push_cast [n3, e1, ha, e2, hb, e3, talkB]
    · have hl' : ¬ (xs.length : Int) = 3 := by omega
      push_cast [hl', talkB_len hl, show isiD (.tuple xs) .tuple = true from rfl]
def numsB : D → Bool
  | .tuple xs => xs.all numB
  | _ => false
theorem numsA_run {ds : Nat → Option Df} (F : Km ds) {fuel k B kk n : Nat} {st : Sto} {t : D} (ht : Thg B kk n t) (hn : n ≤ 100000) : callN ds fuel (k + 2) 28 [.dat t] st = .ok (.dat (.bool (numsB t))) st := by
  cases t with
  | tuple xs => exact nums_run F.h27 F.h28 (by have := ht.items.2.len; omega)
  | int i => rw [callN_eq F.h28]; push_cast [numsB, show isiD (.int i) .tuple = false from rfl]
  | bool b => rw [callN_eq F.h28]; push_cast [numsB, show isiD (.bool b) .tuple = false from rfl]
  | none => rw [callN_eq F.h28]; push_cast [numsB, show isiD .none .tuple = false from rfl]
  | str z => rw [callN_eq F.h28]; push_cast [numsB, show isiD (.str z) .tuple = false from rfl]
  | list xs => rw [callN_eq F.h28]; push_cast [numsB, show isiD (.list xs) .tuple = false from rfl]
  | dict xs => rw [callN_eq F.h28]; push_cast [numsB, show isiD (.dict xs) .tuple = false from rfl]
def ltB : D → D → Bool
  | .int i, .int j => decide (i < j)
  | _, _ => false
def pieceB : D → Bool
  | .tuple [e, t, n, p, q, w, s] => [e, n, p, q, s].all numB && (talkB t && (ltB p q && numsB w))
  | _ => false
theorem pieceB_len {xs : List D} (h : xs.length ≠ 7) : pieceB (.tuple xs) = false := by
  match xs, h with
  | [], _ => rfl
  | [_], _ => rfl
  | [_, _], _ => rfl
  | [_, _, _], _ => rfl
  | [_, _, _, _], _ => rfl
  | [_, _, _, _, _], _ => rfl
  | [_, _, _, _, _, _], _ => rfl
  | [_, _, _, _, _, _, _], h => exact absurd rfl h
  | _ :: _ :: _ :: _ :: _ :: _ :: _ :: _ :: _, _ => rfl
theorem piece_run {ds : Nat → Option Df} (F : Kn ds) {fuel k B kk n : Nat} {st : Sto} {t : D} (ht : Thg B kk n t) (hn : n ≤ 100000) : callN ds fuel (k + 4) 53 [.dat t] st = .ok (.dat (.bool (pieceB t))) st := by
  rw [callN_eq F.h53]
  cases t with
  | int i => push_cast [pieceB, show isiD (.int i) .tuple = false from rfl]
  | bool b => push_cast [pieceB, show isiD (.bool b) .tuple = false from rfl]
  | none => push_cast [pieceB, show isiD .none .tuple = false from rfl]
  | str z => push_cast [pieceB, show isiD (.str z) .tuple = false from rfl]
  | list xs => push_cast [pieceB, show isiD (.list xs) .tuple = false from rfl]
  | dict xs => push_cast [pieceB, show isiD (.dict xs) .tuple = false from rfl]
  | tuple xs =>
    by_cases hl : xs.length = 7
    · have n7 : (((7 : Nat) : Int) = 7) = True := eq_true rfl
      obtain ⟨e, t, nn, p, q, w, s, rfl⟩ := len7 hl
      have e1 := nums_run F.h27 F.h28 (fuel := fuel) (k := k + 1) (st := st) (xs := [e, nn, p, q, s]) (by simp)
      have e2 := talkk_run F.toKm (fuel := fuel) (k := k) (st := st) (t := t) (thgMem ht (by simp)) (by omega)
      have e3 := numsA_run F.toKm (fuel := fuel) (k := k + 1) (st := st) (t := w) (thgMem ht (by simp)) hn
      cases ha : [e, nn, p, q, s].all numB with
      | false =>
        have pf : pieceB (.tuple [e, t, nn, p, q, w, s]) = false := by
          show ([e, nn, p, q, s].all numB && _) = false
          rw [ha]; rfl
        push_cast [n7, e1, ha, pf]
      | true =>
        have pt : pieceB (.tuple [e, t, nn, p, q, w, s]) = (talkB t && (ltB p q && numsB w)) := by
          show ([e, nn, p, q, s].all numB && _) = _
          rw [ha]; rfl
        cases hb : talkB t with
        | false => push_cast [n7, e1, ha, e2, hb, pt]
        | true =>
          simp only [List.all_cons, List.all_nil, Bool.and_true, Bool.and_eq_true] at ha
          obtain ⟨i, rfl, hi⟩ := num_int ha.2.2.1
          obtain ⟨j, rfl, hj⟩ := num_int ha.2.2.2.1
          have ha2 : [e, nn, .int i, .int j, s].all numB = true := by simp only [List.all_cons, List.all_nil, Bool.and_true, Bool.and_eq_true]; exact ha
          by_cases c : i < j
          · push_cast [n7, e1, ha2, e2, hb, pt, c, e3, ltB]
          · push_cast [n7, e1, ha2, e2, hb, pt, c, ltB]
    · have hl' : ¬ (xs.length : Int) = 7 := by omega
      push_cast [hl', pieceB_len hl, show isiD (.tuple xs) .tuple = true from rfl]
end Kin
end
section
set_option Elab.async false
set_option linter.all false
set_option maxRecDepth 20000
open PySem L2 Pur
namespace Frc
local macro_rules | `(tactic| push_cast [$xs,*]) => `(tactic| simp (implicitDefEqProofs := false) (disch := (first | assumption | exact ⟨rfl, by decide⟩ | exact okI_of (by omega) | exact mulOk_64 (by omega) (by omega) | exact fdiv_64 (by omega) (by omega) | (simp only [lim_eq, List.length_append, List.length_map, List.length_cons, List.length_nil, List.length_reverse, List.length_take, List.length_drop, List.length_replicate, List.length_range, upTo_len, enumD_len, zipD_len]; omega) | omega | (simp only [shp_sh, sh_n, sh_b, sh_i, sh_s, sh_T, sh_L, sh_ints, List.all_cons, List.all_nil, List.all_append, Bool.and_self, Bool.and_true]; first | done | decide))) only [cTst, cNeg, cNt, cAnd, cOr, cBin2, cBin, cCmp2, cCmp, cIte, cTup, cLst, cSub2, cSub, cSl3, cSl2, cSl, cCall2, cCall, cBi, cIsi, cDict, cComp, cTs, cO, cSeq, cRange, cEnum, cDs3, cDs2, cDs, cKs3, cKs2, cKs, cRs, cPs2, cPs, cNext, cAsg, cPar, cSetRs, cPut4, cPut3, cPut2, cPut, cRet, cIf, cSeqS, cFor, cSetSlot, cApp2, cApp, cExt, cComp7, r_tst, r_neg, r_nt, r_and, r_or, r_bin, r_cmp, r_ite, r_tup, r_lst, r_sub, r_slice, r_call, r_bi, r_isi, r_dict, r_comp, r_Ts, r_yes, r_seq, r_range, r_enum, r_Ds, r_Ks, r_Rs, r_Ps, r_seqS, r_asg, r_par, r_put, r_expr, r_ret, r_ifs, r_for, r_setRs, r_setSlot, r_app, r_ext, r_kcomp, q_var_d, q_var_o, q_var_l, q_var_n, q_tst, q_neg, q_andT, q_andF, q_orT, q_orF, q_bin, q_cmp, q_of, q_subL, q_look, q_subD, q_subF, q_subS, q_sub2, q_sl, q_call, q_up, q_bi, q_isi, q_iteT, q_iteF, q_tsT, q_tsF, q_seq, q_lendD, q_lendF, q_lendS, q_enumT, q_enumL, q_o, q_app, q_ext, q_esc_o, q_escD_o, q_res_o, q_res_l, q_res_d, q_nx, q_rt, q_bk, q_ct, q_ifT, q_ifF, q_put, q_putS, q_putOk, q_P_f, q_P_d, q_P_l, q_P_s, q_set, q_setT, q_setS, q_setTs, q_fr_d, q_fr_o, q_fr_n, q_fr_l, q_lo_d, q_lo_n, q_lo_l, q_tru_b, q_tru_i, q_tru_t, q_tru_l, q_tru_n, q_add, q_sub, q_mul, q_fdiv, q_mod, q_pow, q_addL, q_addT, q_lt, q_le, q_gt, q_ge, q_eqS, q_neS, q_eqI, q_isN, q_isnN, q_isB, q_tsub, q_lsub, q_lenL, q_lenT, q_tupL, q_tupT, q_lstL, q_lstT, q_repr, q_max, q_min, q_kI, q_kS, q_sqL, q_sqT, q_evD, q_evL, q_argN, q_argC, q_arg, q_argD, q_at0, q_at1, q_at2, q_at3, q_run, q_finD, q_finF, q_finN, q_finS, q_finO, q_finL, evTs_nil, evO_no, evDs_nil, evKs_nil, evRs_nil, evPs_nil, exs_nil, ex_retN, ex_pass, ex_brk, ex_cont, ev_var, ev_lit, ev_glob, ev_app, ev_ext, esc_dat, esc_fresh, esc_loc, esc_slot, escD_dat, escD_fresh, escD_slot, res_dat, res_fresh, res_slot, setR_dat, setR_fresh, setR_loc, setR_tup, setT_nm, setT_tup, setTs_nil, setTs_cons, setRs_nil2, freeAt_eq, looseAt_eq, O.bind_ok, List.mapM_cons, List.mapM_nil, Option.bind_eq_bind, Option.bind_some, Option.pure_def, Option.map_some, List.getElem?_cons_succ, List.getElem?_cons_zero, List.length_cons, List.length_nil, Nat.reduceAdd, Nat.reduceSub, Nat.le_refl, and_self, List.replicate_succ, List.replicate_zero, List.append_nil, List.cons_append, List.nil_append, List.set_cons_succ, List.set_cons_zero, List.all_cons, List.all_nil, Bool.and_true, Bool.true_and, Bool.not_true, Bool.not_false, Nat.sub_self, List.append_assoc, RV.weak, r_turn, q_turn, q_turnT, q_turnF, q_wipe0, q_wipe1, q_back0, q_back1, q_lend0, q_unlend0, q_lend1, q_lend2, q_unlend1, q_unlend2, q_un, q_lends_o, q_lends_d, q_lends_l, cTurn, cTurn3, cTurn4, List.getD_cons_succ, List.getD_cons_zero, Option.map_none, q_tup0, q_lst0, q_tup1, q_lst1, q_tup2, q_lst2, q_tup3, q_lst3, q_tup4, q_lst4, q_tup5, q_lst5, q_tup6, q_lst6, q_tup7, q_lst7, q_tup8, q_lst8, q_tup9, q_lst9, q_tup10, q_lst10, q_tup11, q_lst11, q_tup12, q_lst12, le_lim0, lt_lim0, le_lim1, lt_lim1, le_lim2, lt_lim2, le_lim3, lt_lim3, le_lim4, lt_lim4, le_lim5, lt_lim5, le_lim6, lt_lim6, le_lim7, lt_lim7, le_lim8, lt_lim8, le_lim9, lt_lim9, le_lim10, lt_lim10, le_lim11, lt_lim11, le_lim12, lt_lim12, le_lim13, lt_lim13, le_lim14, lt_lim14, le_lim15, lt_lim15, le_lim16, lt_lim16, le_lim17, lt_lim17, le_lim18, lt_lim18, le_lim19, lt_lim19, le_lim20, lt_lim20, decide_true, decide_false, eq_self, r_while, cW1, cW2, q_wT, q_wF, q_wn, ne_I, q_maxT, intsOf_map, cCh1, cCh2, cCh3, r_chain, q_ch1, q_ch2T, q_ch2F, q_ch4, q_addBI, q_subBI, q_addIB, q_subIB, q_strB, q_isnB, cZip, cZip2, cZip3, cZip4, r_zip, q_zipT, cLoop, cTurnC, r_forC, r_forN, q_lpn, q_lpc, q_lpb, q_lpr, q_eqD, q_neD, q_at4, q_at5, q_at6, q_at7, q_at8, lt2, gt2, cut_to, cut_from, cut_bt, isi_nt, eqv_T, eqv_L, eqv_S, eqvA_n, eqvA_c, eqvA_nc, eqvA_cn, eqv_I, List.take_succ_cons, List.take_zero, List.drop_succ_cons, List.drop_zero, isN_n, isN_b, isN_i, isN_s, isN_l, isN_t, isi_tt, isi_ll, isi_ii, isi_ss, isi_ib, isi_bi, isi_bb, tru_s, cRev, cMth2, cMth, cPuti2, cPuti1, cPuti, cAug, r_rev, r_mth, r_puti, r_killx, Int.reduceAdd, Int.reduceSub, Int.reduceMul, Int.reducePow, Int.reduceNeg, Int.reduceToNat, Int.reduceLT, Int.reduceLE, Int.reduceGT, Int.reduceGE, Int.reduceEq, Int.reduceDiv, Int.reduceMod, Nat.reduceMul, Nat.reduceLT, Nat.reduceLeDiff, Nat.reduceEqDiff, Int.toNat_natCast, r_aug, q_rng, q_rev, q_mth, q_zipL, q_puti1, q_puti2, q_puti3, q_puti4, q_aug, q_aug2, q_aug3, q_enumS, killE_n, killE_c, kKill_d, kKill_o, kKill_l, kKill_n, kKill_c, q_addS, q_ltT, q_gtT, q_revL, q_revT, q_lenS, q_intI, q_intB, q_augI, q_augSub, q_augT, q_slT, q_slL, List.take_length, not_true_eq_false, not_false_eq_true, Bool.false_and, Bool.and_false, Bool.or_true, Bool.true_or, Bool.or_false, Bool.false_or, ite_true, ite_false, if_true, if_false, cond_true, cond_false, Bool.false_eq_true, upTo_len, q_repL, q_repT1, q_repT, Option.some.injEq, Bool.not_eq_true, Bool.decide_eq_true, q_range1, q_range2, $xs,*])
/-- common (0 one, 1 other) -/
abbrev f66_0 : CSs := .cons (.ret (.var 0)) .nil
abbrev f66_1 : CSs := .cons (.par (.cons (.nm 0) (.cons (.nm 1) .nil)) (.cons (.var 1) (.cons (.bin .mod (.var 0) (.var 1)) .nil))) .nil
abbrev f66_2 : CSs := .cons (.while (.cmp .ne (.var 1) (.lit (.int 0))) f66_1) f66_0
abbrev f66 : Df := ⟨2, 2, f66_2⟩
-- is_number: f27 in Rng
-- are_numbers: f28 in Rng
/-- is_fraction (0 thing) -/
abbrev f67_0 : CSs := .cons (.ret (.and (.call 28 (.cons (.var 0) .nil) .nil [.inl 0]) (.and (.cmp .eq (.bi .len (.cons (.var 0) .nil)) (.lit (.int 2))) (.and (.cmp .gt (.sub (.var 0) (.lit (.int 1))) (.lit (.int 0))) (.cmp .eq (.call 66 (.cons (.sub (.var 0) (.lit (.int 0))) (.cons (.sub (.var 0) (.lit (.int 1))) .nil)) .nil [.inl 0, .inl 1]) (.lit (.int 1))))))) .nil
abbrev f67 : Df := ⟨1, 1, f67_0⟩
/-- ratio (0 over, 1 under, 2 by) -/
abbrev f85_0 : CSs := .cons (.ret (.tup (.cons (.bin .fdiv (.var 0) (.var 2)) (.cons (.bin .fdiv (.var 1) (.var 2)) .nil)))) .nil
abbrev f85_1 : CSs := .cons (.asg (.nm 2) (.call 66 (.cons (.var 0) (.cons (.var 1) .nil)) .nil [.inl 0, .inl 1])) f85_0
abbrev f85 : Df := ⟨2, 3, f85_1⟩
/-- added (0 one, 1 other) -/
abbrev f86_0 : CSs := .cons (.ret (.call 85 (.cons (.bin .add (.bin .mul (.sub (.var 0) (.lit (.int 0))) (.sub (.var 1) (.lit (.int 1)))) (.bin .mul (.sub (.var 1) (.lit (.int 0))) (.sub (.var 0) (.lit (.int 1))))) (.cons (.bin .mul (.sub (.var 0) (.lit (.int 1))) (.sub (.var 1) (.lit (.int 1)))) .nil)) .nil [.inl 0, .inl 1])) .nil
abbrev f86 : Df := ⟨2, 2, f86_0⟩
/-- times (0 one, 1 other) -/
abbrev f87_0 : CSs := .cons (.ret (.call 85 (.cons (.bin .mul (.sub (.var 0) (.lit (.int 0))) (.sub (.var 1) (.lit (.int 0)))) (.cons (.bin .mul (.sub (.var 0) (.lit (.int 1))) (.sub (.var 1) (.lit (.int 1)))) .nil)) .nil [.inl 0, .inl 1])) .nil
abbrev f87 : Df := ⟨2, 2, f87_0⟩
/-- is_less (0 one, 1 other) -/
abbrev f68_0 : CSs := .cons (.ret (.cmp .lt (.bin .mul (.sub (.var 0) (.lit (.int 0))) (.sub (.var 1) (.lit (.int 1)))) (.bin .mul (.sub (.var 1) (.lit (.int 0))) (.sub (.var 0) (.lit (.int 1)))))) .nil
abbrev f68 : Df := ⟨2, 2, f68_0⟩
/-- left_of (0 one, 1 other) -/
abbrev f88_0 : CSs := .cons (.ret (.call 85 (.cons (.bin .sub (.bin .mul (.sub (.var 0) (.lit (.int 0))) (.sub (.var 1) (.lit (.int 1)))) (.bin .mul (.sub (.var 1) (.lit (.int 0))) (.sub (.var 0) (.lit (.int 1))))) (.cons (.bin .mul (.sub (.var 0) (.lit (.int 1))) (.sub (.var 1) (.lit (.int 1)))) .nil)) .nil [.inl 0, .inl 1])) .nil
abbrev f88_1 : CSs := .cons (.ret (.lit .none)) .nil
abbrev f88_2 : CSs := .cons (.ifs (.call 68 (.cons (.var 0) (.cons (.var 1) .nil)) .nil [.inl 0, .inl 1]) f88_1 .nil) f88_0
abbrev f88 : Df := ⟨2, 2, f88_2⟩
/-- lesser (0 one, 1 other) -/
abbrev f89_0 : CSs := .cons (.ret (.ite (.call 68 (.cons (.var 1) (.cons (.var 0) .nil)) .nil [.inl 0, .inl 1]) (.var 1) (.var 0))) .nil
abbrev f89 : Df := ⟨2, 2, f89_0⟩
open Rng Kin
theorem common_loop {C : Cn} {st : Sto} : ∀ (N a b : Nat), b < N → cWl C (.cmp .ne (.var 1) (.lit (.int 0))) f66_1 N ⟨[.dat (.int a), .dat (.int b)], st⟩ = .ok .next ⟨[.dat (.int (Nat.gcd a b)), .dat (.int 0)], st⟩
  | 0, a, b, h => absurd h (Nat.not_lt_zero _)
  | N + 1, a, b, h => by
    rw [w_succ]
    by_cases c : b = 0
    · subst c
      push_cast [Nat.gcd_zero_right, show ((0 : Nat) : Int) = 0 from rfl]
    · have hb : 0 < (b : Int) := by omega
      have hn : ¬ (b : Int) = 0 := by omega
      have hm : ((a : Int) % (b : Int)) = ((a % b : Nat) : Int) := (Int.natCast_emod a b).symm
      have ih := common_loop (C := C) (st := st) N b (a % b) (by have := Nat.mod_lt a (Nat.pos_of_ne_zero c); omega)
      push_cast [hn, hm, ih]
      rw [Nat.gcd_comm a b, Nat.gcd_rec b a, Nat.gcd_comm]
theorem common_run {ds : Nat → Option Df} (h : ds 66 = some f66) {fuel k a b : Nat} {st : Sto} (hb : b < fuel) : callN ds fuel (k + 1) 66 [.dat (.int a), .dat (.int b)] st = .ok (.dat (.int (Nat.gcd a b))) st := by
  rw [callN_eq h]
  push_cast [common_loop (C := ⟨callN ds fuel k, fuel⟩) (st := st) fuel a b hb]
def natD : D → Nat
  | .int i => i.toNat
  | _ => 0
def fracB : D → Bool
  | .tuple [a, b] => numB a && (numB b && (decide (0 < natD b) && decide (Nat.gcd (natD a) (natD b) = 1)))
  | _ => false
theorem fracB_len {xs : List D} (h : xs.length ≠ 2) : fracB (.tuple xs) = false := by
  match xs, h with
  | [], _ => rfl
  | [_], _ => rfl
  | [_, _], h => exact absurd rfl h
  | _ :: _ :: _ :: _, _ => rfl
theorem fracB_num {xs : List D} (h : xs.all numB = false) : fracB (.tuple xs) = false := by
  by_cases hl : xs.length = 2
  · obtain ⟨a, b, rfl⟩ := len2 hl
    simp only [List.all_cons, List.all_nil, Bool.and_true] at h
    show (numB a && (numB b && _)) = false
    cases ha : numB a with
    | false => rfl
    | true =>
      rw [ha, Bool.true_and] at h
      rw [h]; rfl
  · exact fracB_len hl
theorem nat_of {a : D} (h : numB a = true) : ∃ n : Nat, a = .int n := by
  obtain ⟨i, rfl, hi⟩ := num_int h
  exact ⟨i.toNat, by rw [Int.toNat_of_nonneg hi]⟩
theorem fracB_nat {i j : Nat} : fracB (.tuple [.int i, .int j]) = (decide (0 < j) && decide (Nat.gcd i j = 1)) := by
  show (decide ((0 : Int) ≤ i) && (decide ((0 : Int) ≤ j) && _)) = _
  rw [decide_eq_true (Int.natCast_nonneg i), decide_eq_true (Int.natCast_nonneg j)]
  rfl
theorem thg_le {B k n : Nat} {j : Nat} (h : Thg B k n (.int j)) : j ≤ B := by
  have := h.ok
  simp only [Okd] at this
  omega
structure Fr (ds : Nat → Option Df) : Prop where
  h27 : ds 27 = some Rng.f27
  h28 : ds 28 = some Rng.f28
  h66 : ds 66 = some f66
  h67 : ds 67 = some f67
theorem fraction_run {ds : Nat → Option Df} (F : Fr ds) {fuel k B kk n : Nat} {st : Sto} {t : D} (ht : Thg B kk n t) (hB : B < fuel) (hn : n ≤ 100000) : callN ds fuel (k + 3) 67 [.dat t] st = .ok (.dat (.bool (fracB t))) st := by
  rw [callN_eq F.h67]
  cases t with
  | tuple xs =>
    have e1 := nums_run F.h27 F.h28 (fuel := fuel) (k := k) (st := st) (xs := xs) (by have := ht.items.2.len; omega)
    cases ha : xs.all numB with
    | false => push_cast [e1, ha, fracB_num ha]
    | true =>
      by_cases hl : xs.length = 2
      · have n2 : (((2 : Nat) : Int) = 2) = True := eq_true rfl
        obtain ⟨a, b, rfl⟩ := len2 hl
        have ha2 := ha
        simp only [List.all_cons, List.all_nil, Bool.and_true, Bool.and_eq_true] at ha2
        obtain ⟨i, rfl⟩ := nat_of ha2.1
        obtain ⟨j, rfl⟩ := nat_of ha2.2
        have hj : j ≤ B := thg_le (thgMem ht (by simp))
        by_cases c : 0 < j
        · have c' : 0 < (j : Int) := by omega
          have e2 := common_run F.h66 (fuel := fuel) (k := k + 1) (a := i) (b := j) (st := st) (by omega)
          by_cases g : Nat.gcd i j = 1
          · push_cast [e1, ha, n2, c', e2, fracB_nat, c, g, show ((1 : Nat) : Int) = 1 from rfl]
          · have g' : ¬ ((Nat.gcd i j : Nat) : Int) = 1 := by omega
            push_cast [e1, ha, n2, c', e2, fracB_nat, c, g, g']
        · have c' : ¬ 0 < (j : Int) := by omega
          push_cast [e1, ha, n2, c', fracB_nat, c]
      · have hl' : ¬ (xs.length : Int) = 2 := by omega
        push_cast [e1, ha, hl', fracB_len hl]
  | int i => rw [show fracB (.int i) = false from rfl]; have e : callN ds fuel (k + 2) 28 [.dat (.int i)] st = .ok (.dat (.bool false)) st := by (rw [callN_eq F.h28]; push_cast [show isiD (.int i) .tuple = false from rfl])
             push_cast [e]
  | bool i => rw [show fracB (.bool i) = false from rfl]; have e : callN ds fuel (k + 2) 28 [.dat (.bool i)] st = .ok (.dat (.bool false)) st := by (rw [callN_eq F.h28]; push_cast [show isiD (.bool i) .tuple = false from rfl])
              push_cast [e]
  | none => rw [show fracB .none = false from rfl]; have e : callN ds fuel (k + 2) 28 [.dat .none] st = .ok (.dat (.bool false)) st := by (rw [callN_eq F.h28]; push_cast [show isiD .none .tuple = false from rfl])
            push_cast [e]
  | str i => rw [show fracB (.str i) = false from rfl]; have e : callN ds fuel (k + 2) 28 [.dat (.str i)] st = .ok (.dat (.bool false)) st := by (rw [callN_eq F.h28]; push_cast [show isiD (.str i) .tuple = false from rfl])
             push_cast [e]
  | list i => rw [show fracB (.list i) = false from rfl]; have e : callN ds fuel (k + 2) 28 [.dat (.list i)] st = .ok (.dat (.bool false)) st := by (rw [callN_eq F.h28]; push_cast [show isiD (.list i) .tuple = false from rfl])
              push_cast [e]
  | dict i => rw [show fracB (.dict i) = false from rfl]; have e : callN ds fuel (k + 2) 28 [.dat (.dict i)] st = .ok (.dat (.bool false)) st := by (rw [callN_eq F.h28]; push_cast [show isiD (.dict i) .tuple = false from rfl])
              push_cast [e]
/-- is_less: of two with numbers that are not too great -/
theorem less_run {ds : Nat → Option Df} (h : ds 68 = some f68) {fuel k : Nat} {st : Sto} {a b c d : Int} {xs ys : List D} (ha : a.natAbs < BIG) (hb : b.natAbs < BIG) (hc : c.natAbs < BIG) (hd : d.natAbs < BIG) : callN ds fuel (k + 1) 68 [.dat (.tuple (.int a :: .int b :: xs)), .dat (.tuple (.int c :: .int d :: ys))] st = .ok (.dat (.bool (decide (a * d < c * b)))) st := by
  rw [callN_eq h]
  push_cast [q_mul (mul_big ha hd), q_mul (mul_big hc hb)]
end Frc
end
section
set_option Elab.async false
set_option linter.all false
set_option maxRecDepth 20000
open PySem L2 Pur
namespace Prs
local macro_rules | `(tactic| push_cast [$xs,*]) => `(tactic| simp (implicitDefEqProofs := false) (disch := (first | assumption | exact ⟨rfl, by decide⟩ | exact okI_of (by omega) | exact mulOk_64 (by omega) (by omega) | exact fdiv_64 (by omega) (by omega) | (simp only [lim_eq, List.length_append, List.length_map, List.length_cons, List.length_nil, List.length_reverse, List.length_take, List.length_drop, List.length_replicate, List.length_range, upTo_len, enumD_len, zipD_len]; omega) | omega | (simp only [shp_sh, sh_n, sh_b, sh_i, sh_s, sh_T, sh_L, sh_ints, List.all_cons, List.all_nil, List.all_append, Bool.and_self, Bool.and_true]; first | done | decide))) only [cTst, cNeg, cNt, cAnd, cOr, cBin2, cBin, cCmp2, cCmp, cIte, cTup, cLst, cSub2, cSub, cSl3, cSl2, cSl, cCall2, cCall, cBi, cIsi, cDict, cComp, cTs, cO, cSeq, cRange, cEnum, cDs3, cDs2, cDs, cKs3, cKs2, cKs, cRs, cPs2, cPs, cNext, cAsg, cPar, cSetRs, cPut4, cPut3, cPut2, cPut, cRet, cIf, cSeqS, cFor, cSetSlot, cApp2, cApp, cExt, cComp7, r_tst, r_neg, r_nt, r_and, r_or, r_bin, r_cmp, r_ite, r_tup, r_lst, r_sub, r_slice, r_call, r_bi, r_isi, r_dict, r_comp, r_Ts, r_yes, r_seq, r_range, r_enum, r_Ds, r_Ks, r_Rs, r_Ps, r_seqS, r_asg, r_par, r_put, r_expr, r_ret, r_ifs, r_for, r_setRs, r_setSlot, r_app, r_ext, r_kcomp, q_var_d, q_var_o, q_var_l, q_var_n, q_tst, q_neg, q_andT, q_andF, q_orT, q_orF, q_bin, q_cmp, q_of, q_subL, q_look, q_subD, q_subF, q_subS, q_sub2, q_sl, q_call, q_up, q_bi, q_isi, q_iteT, q_iteF, q_tsT, q_tsF, q_seq, q_lendD, q_lendF, q_lendS, q_enumT, q_enumL, q_o, q_app, q_ext, q_esc_o, q_escD_o, q_res_o, q_res_l, q_res_d, q_nx, q_rt, q_bk, q_ct, q_ifT, q_ifF, q_put, q_putS, q_putOk, q_P_f, q_P_d, q_P_l, q_P_s, q_set, q_setT, q_setS, q_setTs, q_fr_d, q_fr_o, q_fr_n, q_fr_l, q_lo_d, q_lo_n, q_lo_l, q_tru_b, q_tru_i, q_tru_t, q_tru_l, q_tru_n, q_add, q_sub, q_mul, q_fdiv, q_mod, q_pow, q_addL, q_addT, q_lt, q_le, q_gt, q_ge, q_eqS, q_neS, q_eqI, q_isN, q_isnN, q_isB, q_tsub, q_lsub, q_lenL, q_lenT, q_tupL, q_tupT, q_lstL, q_lstT, q_repr, q_max, q_min, q_kI, q_kS, q_sqL, q_sqT, q_evD, q_evL, q_argN, q_argC, q_arg, q_argD, q_at0, q_at1, q_at2, q_at3, q_run, q_finD, q_finF, q_finN, q_finS, q_finO, q_finL, evTs_nil, evO_no, evDs_nil, evKs_nil, evRs_nil, evPs_nil, exs_nil, ex_retN, ex_pass, ex_brk, ex_cont, ev_var, ev_lit, ev_glob, ev_app, ev_ext, esc_dat, esc_fresh, esc_loc, esc_slot, escD_dat, escD_fresh, escD_slot, res_dat, res_fresh, res_slot, setR_dat, setR_fresh, setR_loc, setR_tup, setT_nm, setT_tup, setTs_nil, setTs_cons, setRs_nil2, freeAt_eq, looseAt_eq, O.bind_ok, List.mapM_cons, List.mapM_nil, Option.bind_eq_bind, Option.bind_some, Option.pure_def, Option.map_some, List.getElem?_cons_succ, List.getElem?_cons_zero, List.length_cons, List.length_nil, Nat.reduceAdd, Nat.reduceSub, Nat.le_refl, and_self, List.replicate_succ, List.replicate_zero, List.append_nil, List.cons_append, List.nil_append, List.set_cons_succ, List.set_cons_zero, List.all_cons, List.all_nil, Bool.and_true, Bool.true_and, Bool.not_true, Bool.not_false, Nat.sub_self, List.append_assoc, RV.weak, r_turn, q_turn, q_turnT, q_turnF, q_wipe0, q_wipe1, q_back0, q_back1, q_lend0, q_unlend0, q_lend1, q_lend2, q_unlend1, q_unlend2, q_un, q_lends_o, q_lends_d, q_lends_l, cTurn, cTurn3, cTurn4, List.getD_cons_succ, List.getD_cons_zero, Option.map_none, q_tup0, q_lst0, q_tup1, q_lst1, q_tup2, q_lst2, q_tup3, q_lst3, q_tup4, q_lst4, q_tup5, q_lst5, q_tup6, q_lst6, q_tup7, q_lst7, q_tup8, q_lst8, q_tup9, q_lst9, q_tup10, q_lst10, q_tup11, q_lst11, q_tup12, q_lst12, le_lim0, lt_lim0, le_lim1, lt_lim1, le_lim2, lt_lim2, le_lim3, lt_lim3, le_lim4, lt_lim4, le_lim5, lt_lim5, le_lim6, lt_lim6, le_lim7, lt_lim7, le_lim8, lt_lim8, le_lim9, lt_lim9, le_lim10, lt_lim10, le_lim11, lt_lim11, le_lim12, lt_lim12, le_lim13, lt_lim13, le_lim14, lt_lim14, le_lim15, lt_lim15, le_lim16, lt_lim16, le_lim17, lt_lim17, le_lim18, lt_lim18, le_lim19, lt_lim19, le_lim20, lt_lim20, decide_true, decide_false, eq_self, r_while, cW1, cW2, q_wT, q_wF, q_wn, ne_I, q_maxT, intsOf_map, cCh1, cCh2, cCh3, r_chain, q_ch1, q_ch2T, q_ch2F, q_ch4, q_addBI, q_subBI, q_addIB, q_subIB, q_strB, q_isnB, cZip, cZip2, cZip3, cZip4, r_zip, q_zipT, cLoop, cTurnC, r_forC, r_forN, q_lpn, q_lpc, q_lpb, q_lpr, q_eqD, q_neD, q_at4, q_at5, q_at6, q_at7, q_at8, lt2, gt2, cut_to, cut_from, cut_bt, isi_nt, eqv_T, eqv_L, eqv_S, eqvA_n, eqvA_c, eqvA_nc, eqvA_cn, eqv_I, List.take_succ_cons, List.take_zero, List.drop_succ_cons, List.drop_zero, isN_n, isN_b, isN_i, isN_s, isN_l, isN_t, isi_tt, isi_ll, isi_ii, isi_ss, isi_ib, isi_bi, isi_bb, tru_s, cRev, cMth2, cMth, cPuti2, cPuti1, cPuti, cAug, r_rev, r_mth, r_puti, r_killx, Int.reduceAdd, Int.reduceSub, Int.reduceMul, Int.reducePow, Int.reduceNeg, Int.reduceToNat, Int.reduceLT, Int.reduceLE, Int.reduceGT, Int.reduceGE, Int.reduceEq, Int.reduceDiv, Int.reduceMod, Nat.reduceMul, Nat.reduceLT, Nat.reduceLeDiff, Nat.reduceEqDiff, Int.toNat_natCast, r_aug, q_rng, q_rev, q_mth, q_zipL, q_puti1, q_puti2, q_puti3, q_puti4, q_aug, q_aug2, q_aug3, q_enumS, killE_n, killE_c, kKill_d, kKill_o, kKill_l, kKill_n, kKill_c, q_addS, q_ltT, q_gtT, q_revL, q_revT, q_lenS, q_intI, q_intB, q_augI, q_augSub, q_augT, q_slT, q_slL, List.take_length, not_true_eq_false, not_false_eq_true, Bool.false_and, Bool.and_false, Bool.or_true, Bool.true_or, Bool.or_false, Bool.false_or, ite_true, ite_false, if_true, if_false, cond_true, cond_false, Bool.false_eq_true, upTo_len, q_repL, q_repT1, q_repT, Option.some.injEq, Bool.not_eq_true, Bool.decide_eq_true, q_range1, q_range2, $xs,*])
-- is_less: f68 in Frc
-- is_number: f27 in Rng
-- are_numbers: f28 in Rng
-- common: f66 in Frc
-- is_fraction: f67 in Frc
/-- is_purse (0 thing, 1 one, 2 has, 3 rate, 4 most) -/
abbrev f69_0 : CSs := .cons (.ret (.and (.cmp .gt (.sub (.var 3) (.lit (.int 0))) (.lit (.int 0))) (.and (.nt (.call 68 (.cons (.var 4) (.cons (.glob "WHOLE" (.tuple [(.int 1), (.int 1)])) .nil)) .nil [.inl 0, .inl 1])) (.nt (.call 68 (.cons (.var 4) (.cons (.var 2) .nil)) .nil [.inl 0, .inl 1]))))) .nil
abbrev f69_1 : CSs := .cons (.asg (.tup (.cons (.nm 2) (.cons (.nm 3) (.cons (.nm 4) .nil)))) (.var 0)) f69_0
abbrev f69_2 : CSs := .cons (.ret (.lit (.bool false))) .nil
abbrev f69_3 : CSs := .cons (.ifs (.or (.nt (.isi (.var 0) .tuple)) (.or (.cmp .ne (.bi .len (.cons (.var 0) .nil)) (.lit (.int 3))) (.nt (.bi .all (.cons (.comp (.nm 1) [1] (.seq (.var 0)) .nil (.call 67 (.cons (.var 1) .nil) .nil [.inl 0])) .nil))))) f69_2 .nil) f69_1
abbrev f69 : Df := ⟨1, 5, f69_3⟩
/-- has_whole (0 purse) -/
abbrev f90_0 : CSs := .cons (.ret (.nt (.call 68 (.cons (.sub (.var 0) (.lit (.int 0))) (.cons (.glob "WHOLE" (.tuple [(.int 1), (.int 1)])) .nil)) .nil [.inl 0, .inl 1]))) .nil
abbrev f90 : Df := ⟨1, 1, f90_0⟩
-- lesser: f89 in Frc
-- ratio: f85 in Frc
-- added: f86 in Frc
-- times: f87 in Frc
/-- purse_filled (0 purse, 1 ticks, 2 has, 3 rate, 4 most) -/
abbrev f92_0 : CSs := .cons (.ret (.tup (.cons (.call 89 (.cons (.call 86 (.cons (.var 2) (.cons (.call 87 (.cons (.var 3) (.cons (.tup (.cons (.var 1) (.cons (.lit (.int 1)) .nil))) .nil)) .nil [.inl 0, .inl 1]) .nil)) .nil [.inl 0, .inl 1]) (.cons (.var 4) .nil)) .nil [.inl 0, .inl 1]) (.cons (.var 3) (.cons (.var 4) .nil))))) .nil
abbrev f92_1 : CSs := .cons (.asg (.tup (.cons (.nm 2) (.cons (.nm 3) (.cons (.nm 4) .nil)))) (.var 0)) f92_0
abbrev f92 : Df := ⟨2, 5, f92_1⟩
-- left_of: f88 in Frc
/-- ticks_till (0 purse, 1 lacks, 2 rate) -/
abbrev f93_0 : CSs := .cons (.ret (.bin .sub (.lit (.int 0)) (.bin .fdiv (.bin .sub (.lit (.int 0)) (.bin .mul (.sub (.var 1) (.lit (.int 0))) (.sub (.var 2) (.lit (.int 1))))) (.bin .mul (.sub (.var 1) (.lit (.int 1))) (.sub (.var 2) (.lit (.int 0))))))) .nil
abbrev f93_1 : CSs := .cons (.par (.cons (.nm 1) (.cons (.nm 2) .nil)) (.cons (.call 88 (.cons (.glob "WHOLE" (.tuple [(.int 1), (.int 1)])) (.cons (.sub (.var 0) (.lit (.int 0))) .nil)) .nil [.inl 0, .inl 1]) (.cons (.sub (.var 0) (.lit (.int 1))) .nil))) f93_0
abbrev f93_2 : CSs := .cons (.ret (.lit (.int 0))) .nil
abbrev f93_3 : CSs := .cons (.ifs (.call 90 (.cons (.var 0) .nil) .nil [.inl 0]) f93_2 .nil) f93_1
abbrev f93 : Df := ⟨1, 3, f93_3⟩
open Rng Kin Frc
def over : D → Nat
  | .tuple [a, _] => natD a
  | _ => 0
def under : D → Nat
  | .tuple [_, b] => natD b
  | _ => 0
theorem frac_of {t : D} (h : fracB t = true) : ∃ i j : Nat, t = .tuple [.int i, .int j] ∧ 0 < j ∧ Nat.gcd i j = 1 := by
  cases t with
  | tuple xs =>
    by_cases hl : xs.length = 2
    · obtain ⟨a, b, rfl⟩ := len2 hl
      have h' : (numB a && (numB b && (decide (0 < natD b) && decide (Nat.gcd (natD a) (natD b) = 1)))) = true := h
      simp only [Bool.and_eq_true] at h'
      obtain ⟨i, rfl⟩ := nat_of h'.1
      obtain ⟨j, rfl⟩ := nat_of h'.2.1
      rw [fracB_nat] at h
      simp only [Bool.and_eq_true, decide_eq_true_eq] at h
      exact ⟨i, j, rfl, h.1, h.2⟩
    · rw [fracB_len hl] at h; cases h
  | _ => cases h
def purseB : D → Bool
  | .tuple [a, b, c] => [a, b, c].all fracB && (decide (0 < over b) && (decide (under c ≤ over c) && decide (over a * under c ≤ over c * under a)))
  | _ => false
theorem purseB_len {xs : List D} (h : xs.length ≠ 3) : purseB (.tuple xs) = false := by
  match xs, h with
  | [], _ => rfl
  | [_], _ => rfl
  | [_, _], _ => rfl
  | [_, _, _], h => exact absurd rfl h
  | _ :: _ :: _ :: _ :: _, _ => rfl
theorem purseB_all {xs : List D} (h : xs.all fracB = false) : purseB (.tuple xs) = false := by
  by_cases hl : xs.length = 3
  · obtain ⟨a, b, c, rfl⟩ := len3 hl
    show ([a, b, c].all fracB && _) = false
    rw [h]; rfl
  · exact purseB_len hl
theorem purseB_nat {a b c d e f : Nat} (h : [PyData.tuple [.int a, .int b], .tuple [.int c, .int d], .tuple [.int e, .int f]].all fracB = true) : purseB (.tuple [.tuple [.int a, .int b], .tuple [.int c, .int d], .tuple [.int e, .int f]]) = (decide (0 < c) && (decide (f ≤ e) && decide (a * f ≤ e * b))) := by
  show (_ && _) = _
  rw [h]; rfl
/-- three fractions -/
theorem fracs3 {xs : List D} (hl : xs.length = 3) (h : xs.all fracB = true) : ∃ a b c d e f : Nat, xs = [.tuple [.int a, .int b], .tuple [.int c, .int d], .tuple [.int e, .int f]] ∧ 0 < b ∧ 0 < d ∧ 0 < f := by
  obtain ⟨x, y, z, rfl⟩ := len3 hl
  simp only [List.all_cons, List.all_nil, Bool.and_true, Bool.and_eq_true] at h
  obtain ⟨a, b, rfl, h1, _⟩ := frac_of h.1
  obtain ⟨c, d, rfl, h2, _⟩ := frac_of h.2.1
  obtain ⟨e, f, rfl, h3, _⟩ := frac_of h.2.2
  exact ⟨a, b, c, d, e, f, rfl, h1, h2, h3⟩
theorem all_loop {ds : Nat → Option Df} (F : Fr ds) {fuel k B kk n : Nat} {st : Sto} {xs : List D} {e2 e3 e4 : EV} (ht : Thg B kk n (.tuple xs)) (hB : B < fuel) (hn : n ≤ 100000) :
    compL (turnF ⟨callN ds fuel (k + 3), fuel⟩ (.nm 1) [1] .nil (.call 67 (.cons (.var 1) .nil) .nil [.inl 0])) xs [] ⟨[.dat (.tuple xs), .non, .non, .non, .non], st⟩ = .ok ((xs.map fracB).map .bool) ⟨[.dat (.tuple xs), .non, .non, .non, .non], st⟩ := by
  rw [compL_pure (g := fun x => some (.bool (fracB x))) (fun x mx => ?_) (by rw [List.length_nil, lim_eq]; have := ht.items.2.len; omega)]
  · have e : xs.filterMap (fun x => some (PyData.bool (fracB x))) = (xs.map fracB).map .bool := by rw [fm_map, List.map_map]; rfl
    rw [List.nil_append, e]
  · have e1 := fraction_run F (fuel := fuel) (k := k) (st := st) (thgMem ht mx) hB hn
    push_cast [e1]
theorem purse_run {ds : Nat → Option Df} (F : Fr ds) (h68 : ds 68 = some Frc.f68) (h : ds 69 = some f69) {fuel k B kk n : Nat} {st : Sto} {t : D} (ht : Thg B kk n t) (hB : B < fuel) (hB2 : B < BIG) (hn : n ≤ 100000) : callN ds fuel (k + 4) 69 [.dat t] st = .ok (.dat (.bool (purseB t))) st := by
  rw [callN_eq h]
  cases t with
  | int i => push_cast [purseB, show isiD (.int i) .tuple = false from rfl]
  | bool b => push_cast [purseB, show isiD (.bool b) .tuple = false from rfl]
  | none => push_cast [purseB, show isiD .none .tuple = false from rfl]
  | str z => push_cast [purseB, show isiD (.str z) .tuple = false from rfl]
  | list xs => push_cast [purseB, show isiD (.list xs) .tuple = false from rfl]
  | dict xs => push_cast [purseB, show isiD (.dict xs) .tuple = false from rfl]
  | tuple xs =>
    by_cases hl : xs.length = 3
    · have hl' : (xs.length : Int) = 3 := by omega
      have lp := all_loop F (fuel := fuel) (k := k) (st := st) (e2 := .non) (e3 := .non) (e4 := .non) ht hB hn
      cases ha : xs.all fracB with
      | false =>
        have a : (xs.map fracB).all id = false := by rw [List.all_map]; exact ha
        push_cast [hl', lp, all_bools, a, purseB_all ha, show isiD (.tuple xs) .tuple = true from rfl]
      | true =>
        have n3 : (((3 : Nat) : Int) = 3) = True := eq_true rfl
        have a : (xs.map fracB).all id = true := by rw [List.all_map]; exact ha
        obtain ⟨p, q, r, s, u, v, rfl, h1, h2, h3⟩ := fracs3 hl ha
        have bp : p ≤ B := thg_le (thgMem (thgMem ht (x := .tuple [.int p, .int q]) (by simp)) (by simp))
        have bq : q ≤ B := thg_le (thgMem (thgMem ht (x := .tuple [.int p, .int q]) (by simp)) (by simp))
        have bu : u ≤ B := thg_le (thgMem (thgMem ht (x := .tuple [.int u, .int v]) (by simp)) (by simp))
        have bv : v ≤ B := thg_le (thgMem (thgMem ht (x := .tuple [.int u, .int v]) (by simp)) (by simp))
        have one : (1 : Int).natAbs < BIG := Nat.lt_of_lt_of_le (show 1 < 2 ^ 1 by decide) (big_le (by decide))
        have l1 := less_run h68 (fuel := fuel) (k := k + 2) (st := st) (a := u) (b := v) (c := 1) (d := 1) (xs := []) (ys := []) (by omega) (by omega) one one
        have l2 := less_run h68 (fuel := fuel) (k := k + 2) (st := st) (a := u) (b := v) (c := p) (d := q) (xs := []) (ys := []) (by omega) (by omega) (by omega) (by omega)
        have z1 : (decide (0 < (r : Int))) = decide (0 < r) := decide_eq_decide.mpr (by omega)
        have z2 : (!decide ((u : Int) * 1 < 1 * (v : Int))) = decide (v ≤ u) := by
          rw [← decide_not]; exact decide_eq_decide.mpr (by omega)
        have z3 : (!decide ((u : Int) * (q : Int) < (p : Int) * (v : Int))) = decide (p * v ≤ u * q) := by
          rw [← decide_not, ← Int.natCast_mul, ← Int.natCast_mul]
          exact decide_eq_decide.mpr (by omega)
        have pn := purseB_nat ha
        rw [← z1, ← z2, ← z3] at pn
        rw [pn]
        by_cases c1 : 0 < (r : Int)
        · by_cases c2 : (u : Int) * 1 < 1 * (v : Int)
          · push_cast [n3, lp, all_bools, a, l1, l2, c1, c2]
          · by_cases c3 : (u : Int) * (q : Int) < (p : Int) * (v : Int)
            · push_cast [n3, lp, all_bools, a, l1, l2, c1, c2, c3]
            · push_cast [n3, lp, all_bools, a, l1, l2, c1, c2, c3]
        · push_cast [n3, lp, all_bools, a, c1]
    · have hl' : ¬ (xs.length : Int) = 3 := by omega
      push_cast [hl', purseB_len hl, show isiD (.tuple xs) .tuple = true from rfl]
end Prs
end
section
set_option Elab.async false
set_option linter.all false
set_option maxRecDepth 20000
open PySem L2 Pur
namespace Drw
local macro_rules | `(tactic| push_cast [$xs,*]) => `(tactic| simp (implicitDefEqProofs := false) (disch := (first | assumption | exact ⟨rfl, by decide⟩ | exact okI_of (by omega) | exact mulOk_64 (by omega) (by omega) | exact fdiv_64 (by omega) (by omega) | (simp only [lim_eq, List.length_append, List.length_map, List.length_cons, List.length_nil, List.length_reverse, List.length_take, List.length_drop, List.length_replicate, List.length_range, upTo_len, enumD_len, zipD_len]; omega) | omega | (simp only [shp_sh, sh_n, sh_b, sh_i, sh_s, sh_T, sh_L, sh_ints, List.all_cons, List.all_nil, List.all_append, Bool.and_self, Bool.and_true]; first | done | decide))) only [cTst, cNeg, cNt, cAnd, cOr, cBin2, cBin, cCmp2, cCmp, cIte, cTup, cLst, cSub2, cSub, cSl3, cSl2, cSl, cCall2, cCall, cBi, cIsi, cDict, cComp, cTs, cO, cSeq, cRange, cEnum, cDs3, cDs2, cDs, cKs3, cKs2, cKs, cRs, cPs2, cPs, cNext, cAsg, cPar, cSetRs, cPut4, cPut3, cPut2, cPut, cRet, cIf, cSeqS, cFor, cSetSlot, cApp2, cApp, cExt, cComp7, r_tst, r_neg, r_nt, r_and, r_or, r_bin, r_cmp, r_ite, r_tup, r_lst, r_sub, r_slice, r_call, r_bi, r_isi, r_dict, r_comp, r_Ts, r_yes, r_seq, r_range, r_enum, r_Ds, r_Ks, r_Rs, r_Ps, r_seqS, r_asg, r_par, r_put, r_expr, r_ret, r_ifs, r_for, r_setRs, r_setSlot, r_app, r_ext, r_kcomp, q_var_d, q_var_o, q_var_l, q_var_n, q_tst, q_neg, q_andT, q_andF, q_orT, q_orF, q_bin, q_cmp, q_of, q_subL, q_look, q_subD, q_subF, q_subS, q_sub2, q_sl, q_call, q_up, q_bi, q_isi, q_iteT, q_iteF, q_tsT, q_tsF, q_seq, q_lendD, q_lendF, q_lendS, q_enumT, q_enumL, q_o, q_app, q_ext, q_esc_o, q_escD_o, q_res_o, q_res_l, q_res_d, q_nx, q_rt, q_bk, q_ct, q_ifT, q_ifF, q_put, q_putS, q_putOk, q_P_f, q_P_d, q_P_l, q_P_s, q_set, q_setT, q_setS, q_setTs, q_fr_d, q_fr_o, q_fr_n, q_fr_l, q_lo_d, q_lo_n, q_lo_l, q_tru_b, q_tru_i, q_tru_t, q_tru_l, q_tru_n, q_add, q_sub, q_mul, q_fdiv, q_mod, q_pow, q_addL, q_addT, q_lt, q_le, q_gt, q_ge, q_eqS, q_neS, q_eqI, q_isN, q_isnN, q_isB, q_tsub, q_lsub, q_lenL, q_lenT, q_tupL, q_tupT, q_lstL, q_lstT, q_repr, q_max, q_min, q_kI, q_kS, q_sqL, q_sqT, q_evD, q_evL, q_argN, q_argC, q_arg, q_argD, q_at0, q_at1, q_at2, q_at3, q_run, q_finD, q_finF, q_finN, q_finS, q_finO, q_finL, evTs_nil, evO_no, evDs_nil, evKs_nil, evRs_nil, evPs_nil, exs_nil, ex_retN, ex_pass, ex_brk, ex_cont, ev_var, ev_lit, ev_glob, ev_app, ev_ext, esc_dat, esc_fresh, esc_loc, esc_slot, escD_dat, escD_fresh, escD_slot, res_dat, res_fresh, res_slot, setR_dat, setR_fresh, setR_loc, setR_tup, setT_nm, setT_tup, setTs_nil, setTs_cons, setRs_nil2, freeAt_eq, looseAt_eq, O.bind_ok, List.mapM_cons, List.mapM_nil, Option.bind_eq_bind, Option.bind_some, Option.pure_def, Option.map_some, List.getElem?_cons_succ, List.getElem?_cons_zero, List.length_cons, List.length_nil, Nat.reduceAdd, Nat.reduceSub, Nat.le_refl, and_self, List.replicate_succ, List.replicate_zero, List.append_nil, List.cons_append, List.nil_append, List.set_cons_succ, List.set_cons_zero, List.all_cons, List.all_nil, Bool.and_true, Bool.true_and, Bool.not_true, Bool.not_false, Nat.sub_self, List.append_assoc, RV.weak, r_turn, q_turn, q_turnT, q_turnF, q_wipe0, q_wipe1, q_back0, q_back1, q_lend0, q_unlend0, q_lend1, q_lend2, q_unlend1, q_unlend2, q_un, q_lends_o, q_lends_d, q_lends_l, cTurn, cTurn3, cTurn4, List.getD_cons_succ, List.getD_cons_zero, Option.map_none, q_tup0, q_lst0, q_tup1, q_lst1, q_tup2, q_lst2, q_tup3, q_lst3, q_tup4, q_lst4, q_tup5, q_lst5, q_tup6, q_lst6, q_tup7, q_lst7, q_tup8, q_lst8, q_tup9, q_lst9, q_tup10, q_lst10, q_tup11, q_lst11, q_tup12, q_lst12, le_lim0, lt_lim0, le_lim1, lt_lim1, le_lim2, lt_lim2, le_lim3, lt_lim3, le_lim4, lt_lim4, le_lim5, lt_lim5, le_lim6, lt_lim6, le_lim7, lt_lim7, le_lim8, lt_lim8, le_lim9, lt_lim9, le_lim10, lt_lim10, le_lim11, lt_lim11, le_lim12, lt_lim12, le_lim13, lt_lim13, le_lim14, lt_lim14, le_lim15, lt_lim15, le_lim16, lt_lim16, le_lim17, lt_lim17, le_lim18, lt_lim18, le_lim19, lt_lim19, le_lim20, lt_lim20, decide_true, decide_false, eq_self, r_while, cW1, cW2, q_wT, q_wF, q_wn, ne_I, q_maxT, intsOf_map, cCh1, cCh2, cCh3, r_chain, q_ch1, q_ch2T, q_ch2F, q_ch4, q_addBI, q_subBI, q_addIB, q_subIB, q_strB, q_isnB, cZip, cZip2, cZip3, cZip4, r_zip, q_zipT, cLoop, cTurnC, r_forC, r_forN, q_lpn, q_lpc, q_lpb, q_lpr, q_eqD, q_neD, q_at4, q_at5, q_at6, q_at7, q_at8, lt2, gt2, cut_to, cut_from, cut_bt, isi_nt, eqv_T, eqv_L, eqv_S, eqvA_n, eqvA_c, eqvA_nc, eqvA_cn, eqv_I, List.take_succ_cons, List.take_zero, List.drop_succ_cons, List.drop_zero, isN_n, isN_b, isN_i, isN_s, isN_l, isN_t, isi_tt, isi_ll, isi_ii, isi_ss, isi_ib, isi_bi, isi_bb, tru_s, cRev, cMth2, cMth, cPuti2, cPuti1, cPuti, cAug, r_rev, r_mth, r_puti, r_killx, Int.reduceAdd, Int.reduceSub, Int.reduceMul, Int.reducePow, Int.reduceNeg, Int.reduceToNat, Int.reduceLT, Int.reduceLE, Int.reduceGT, Int.reduceGE, Int.reduceEq, Int.reduceDiv, Int.reduceMod, Nat.reduceMul, Nat.reduceLT, Nat.reduceLeDiff, Nat.reduceEqDiff, Int.toNat_natCast, r_aug, q_rng, q_rev, q_mth, q_zipL, q_puti1, q_puti2, q_puti3, q_puti4, q_aug, q_aug2, q_aug3, q_enumS, killE_n, killE_c, kKill_d, kKill_o, kKill_l, kKill_n, kKill_c, q_addS, q_ltT, q_gtT, q_revL, q_revT, q_lenS, q_intI, q_intB, q_augI, q_augSub, q_augT, q_slT, q_slL, List.take_length, not_true_eq_false, not_false_eq_true, Bool.false_and, Bool.and_false, Bool.or_true, Bool.true_or, Bool.or_false, Bool.false_or, ite_true, ite_false, if_true, if_false, cond_true, cond_false, Bool.false_eq_true, upTo_len, q_repL, q_repT1, q_repT, Option.some.injEq, Bool.not_eq_true, Bool.decide_eq_true, q_range1, q_range2, $xs,*])
/-- _law_fraction (0 _law_feed_here, 1 _law_over, 2 _law_under, 3 _law_by) -/
abbrev f70_0 : CSs := .cons (.ret (.tup (.cons (.var 1) (.cons (.var 2) .nil)))) .nil
abbrev f70_1 : CSs := .cons (.kill [3]) .nil
abbrev f70_2 : CSs := .cons (.par (.cons (.nm 1) (.cons (.nm 2) .nil)) (.cons (.bin .fdiv (.var 1) (.var 3)) (.cons (.bin .fdiv (.var 2) (.var 3)) .nil))) .nil
abbrev f70_3 : CSs := .cons (.ifs (.and (.cmp .eq (.bin .mod (.var 1) (.var 3)) (.lit (.int 0))) (.cmp .eq (.bin .mod (.var 2) (.var 3)) (.lit (.int 0)))) f70_2 .nil) f70_1
abbrev f70_4 : CSs := .cons (.for (.nm 3) (.range (.cons (.lit (.int 40)) (.cons (.lit (.int 1)) (.cons (.neg (.lit (.int 1))) .nil)))) f70_3) .nil
abbrev f70_5 : CSs := .cons (.kill [0]) f70_4
abbrev f70_6 : CSs := .cons (.par (.cons (.nm 1) (.cons (.nm 2) .nil)) (.cons (.call 0 (.cons (.var 0) (.cons (.lit (.int 40)) .nil)) .nil [.inl 0, .inl 1]) (.cons (.bin .add (.lit (.int 1)) (.call 0 (.cons (.var 0) (.cons (.lit (.int 40)) .nil)) .nil [.inl 0, .inl 1])) .nil))) f70_5
abbrev f70_7 : CSs := .cons (.ifs (.cmp .eq (.call 0 (.cons (.var 0) (.cons (.lit (.int 3)) .nil)) .nil [.inl 0, .inl 1]) (.lit (.int 0))) f70_6 .nil) f70_0
abbrev f70_8 : CSs := .cons (.asg (.tup (.cons (.nm 1) (.cons (.nm 2) .nil))) (.sub (.lst (.cons (.tup (.cons (.lit (.int 1)) (.cons (.lit (.int 1)) .nil))) (.cons (.tup (.cons (.lit (.int 1)) (.cons (.lit (.int 2)) .nil))) (.cons (.tup (.cons (.lit (.int 3)) (.cons (.lit (.int 4)) .nil))) (.cons (.tup (.cons (.lit (.int 0)) (.cons (.lit (.int 1)) .nil))) (.cons (.tup (.cons (.lit (.int 2)) (.cons (.lit (.int 1)) .nil))) (.cons (.tup (.cons (.lit (.int 7)) (.cons (.lit (.int 3)) .nil))) (.cons (.tup (.cons (.lit (.int 99)) (.cons (.lit (.int 100)) .nil))) (.cons (.tup (.cons (.lit (.int 1)) (.cons (.lit (.int 8)) .nil))) .nil))))))))) (.call 0 (.cons (.var 0) (.cons (.lit (.int 8)) .nil)) .nil [.inl 0, .inl 1]))) f70_7
abbrev f70 : Df := ⟨1, 4, f70_8⟩
/-- _law_purse (0 _law_feed_here, 1 _law_most, 2 _law_rate) -/
abbrev f71_0 : CSs := .cons (.ret (.tup (.cons (.sub (.lst (.cons (.tup (.cons (.lit (.int 0)) (.cons (.lit (.int 1)) .nil))) (.cons (.tup (.cons (.lit (.int 1)) (.cons (.lit (.int 2)) .nil))) (.cons (.tup (.cons (.lit (.int 1)) (.cons (.lit (.int 1)) .nil))) (.cons (.var 1) .nil))))) (.call 0 (.cons (.var 0) (.cons (.lit (.int 4)) .nil)) .nil [.inl 0, .inl 1])) (.cons (.var 2) (.cons (.var 1) .nil))))) .nil
abbrev f71_1 : CSs := .cons (.asg (.nm 2) (.sub (.lst (.cons (.tup (.cons (.lit (.int 1)) (.cons (.lit (.int 1)) .nil))) (.cons (.tup (.cons (.lit (.int 1)) (.cons (.lit (.int 2)) .nil))) (.cons (.tup (.cons (.lit (.int 1)) (.cons (.lit (.int 8)) .nil))) (.cons (.tup (.cons (.lit (.int 3)) (.cons (.lit (.int 4)) .nil))) (.cons (.tup (.cons (.lit (.int 7)) (.cons (.lit (.int 3)) .nil))) .nil)))))) (.call 0 (.cons (.var 0) (.cons (.lit (.int 5)) .nil)) .nil [.inl 0, .inl 1]))) f71_0
abbrev f71_2 : CSs := .cons (.asg (.nm 1) (.sub (.lst (.cons (.tup (.cons (.lit (.int 1)) (.cons (.lit (.int 1)) .nil))) (.cons (.tup (.cons (.lit (.int 2)) (.cons (.lit (.int 1)) .nil))) (.cons (.tup (.cons (.lit (.int 4)) (.cons (.lit (.int 1)) .nil))) (.cons (.tup (.cons (.lit (.int 5)) (.cons (.lit (.int 2)) .nil))) .nil))))) (.call 0 (.cons (.var 0) (.cons (.lit (.int 4)) .nil)) .nil [.inl 0, .inl 1]))) f71_1
abbrev f71 : Df := ⟨1, 3, f71_2⟩
/-- _law_stretch (0 _law_feed_here, 1 _law_rights, 2 _law_word, 3 _law_own, 4 _law_page, 5 _law_at) -/
abbrev f72_0 : CSs := .cons (.ret (.tup (.cons (.var 4) (.cons (.var 5) (.cons (.sub (.lst (.cons (.bin .sub (.lit (.int 8)) (.var 5)) (.cons (.bin .sub (.lit (.int 8)) (.var 5)) (.cons (.bi .min (.cons (.lit (.int 2)) (.cons (.bin .sub (.lit (.int 8)) (.var 5)) .nil))) (.cons (.call 0 (.cons (.var 0) (.cons (.bin .sub (.lit (.int 9)) (.var 5)) .nil)) .nil [.inl 0, .inl 1]) .nil))))) (.call 0 (.cons (.var 0) (.cons (.lit (.int 4)) .nil)) .nil [.inl 0, .inl 1])) .nil))))) .nil
abbrev f72_1 : CSs := .cons (.asg (.nm 5) (.sub (.lst (.cons (.lit (.int 0)) (.cons (.lit (.int 0)) (.cons (.lit (.int 4)) (.cons (.call 0 (.cons (.var 0) (.cons (.lit (.int 8)) .nil)) .nil [.inl 0, .inl 1]) .nil))))) (.call 0 (.cons (.var 0) (.cons (.lit (.int 4)) .nil)) .nil [.inl 0, .inl 1]))) f72_0
abbrev f72_2 : CSs := .cons (.asg (.nm 4) (.ite (.cmp .is (.var 4) (.lit .none)) (.call 0 (.cons (.var 0) (.cons (.bin .add (.bi .len (.cons (.var 1) .nil)) (.lit (.int 1))) .nil)) .nil [.inl 0, .inl 1]) (.var 4))) f72_1
abbrev f72_3 : CSs := .cons (.asg (.nm 4) (.ite (.and (.cmp .ne (.var 3) (.lst .nil)) (.cmp .gt (.call 0 (.cons (.var 0) (.cons (.lit (.int 9)) .nil)) .nil [.inl 0, .inl 1]) (.lit (.int 0)))) (.sub (.var 3) (.call 0 (.cons (.var 0) (.cons (.bi .len (.cons (.var 3) .nil)) .nil)) .nil [.inl 0, .inl 1])) (.lit .none))) f72_2
abbrev f72_4 : CSs := .cons (.asg (.nm 3) (.comp (.nm 4) [4] (.range (.cons (.bi .len (.cons (.var 1) .nil)) .nil)) (.cons (.cmp .eq (.sub (.var 1) (.var 4)) (.var 2)) .nil) (.var 4))) f72_3
abbrev f72 : Df := ⟨3, 6, f72_4⟩
/-- _law_words (0 _law_feed_here, 1 _law_many, 2 _law_few, 3 _law_k) -/
abbrev f73_0 : CSs := .cons (.ret (.bi .tuple (.cons (.comp (.nm 3) [3] (.range (.cons (.call 0 (.cons (.var 0) (.cons (.bin .add (.var 1) (.lit (.int 1))) .nil)) .nil [.inl 0, .inl 1]) .nil)) .nil (.sub (.var 2) (.call 0 (.cons (.var 0) (.cons (.lit (.int 8)) .nil)) .nil [.inl 0, .inl 1]))) .nil))) .nil
abbrev f73_1 : CSs := .cons (.asg (.nm 2) (.lst (.cons (.lit (.int 0)) (.cons (.lit (.int 1)) (.cons (.lit (.int 2)) (.cons (.lit (.int 7)) (.cons (.lit (.int 9)) (.cons (.bin .pow (.lit (.int 10)) (.lit (.int 6))) (.cons (.bin .sub (.bin .pow (.lit (.int 10)) (.lit (.int 6))) (.lit (.int 1))) (.cons (.lit (.int 99)) .nil)))))))))) f73_0
abbrev f73 : Df := ⟨2, 4, f73_1⟩
open Hlp Rng Kin Frc Prs
theorem downTo_len : ∀ (n : Nat) (hi : Int), (downTo hi n).length = n
  | 0, _ => rfl
  | n + 1, hi => by rw [downTo, List.length_cons, downTo_len n]
theorem downTo_get : ∀ (n : Nat) (hi : Int) (j : Nat) (x : D), (downTo hi n)[j]? = some x → j < n ∧ x = .int (hi - j)
  | 0, hi, j, x, h => by simp [downTo] at h
  | n + 1, hi, 0, x, h => by
    rw [downTo] at h
    refine ⟨by omega, ?_⟩
    have h : PyData.int hi = x := Option.some.inj h
    rw [← h]; simp
  | n + 1, hi, j + 1, x, h => by
    rw [downTo, List.getElem?_cons_succ] at h
    obtain ⟨h1, h2⟩ := downTo_get n (hi - 1) j x h
    refine ⟨by omega, ?_⟩
    rw [h2]; congr 1; omega
/-- the greatest common divisor goes down -/
theorem part_loop {C : Cn} {st : Sto} {a b : Nat} (ha : a ≤ 40) (hb : 0 < b) (hb2 : b ≤ 40) :
    ∃ (a' b' : Nat) (e : EV), a' ≤ 40 ∧ 0 < b' ∧ b' ≤ 40 ∧ Nat.gcd a' b' = 1 ∧ forL (.nm 3) (exs C f70_3) (downTo 40 39) ⟨[.non, .dat (.int a), .dat (.int b), .non], st⟩ = .ok .next ⟨[.non, .dat (.int a'), .dat (.int b'), .non], st⟩ := by
  obtain ⟨s', le, a', b', h1, h2, h3, h4, es⟩ := forL_inv (t := .nm 3) (f := exs C f70_3) (xs := downTo 40 39) (s := ⟨[.non, .dat (.int a), .dat (.int b), .non], st⟩)
    (fun i s => ∃ a b : Nat, a ≤ 40 ∧ 0 < b ∧ b ≤ 40 ∧ Nat.gcd a b + i ≤ 40 ∧ s = ⟨[.non, .dat (.int a), .dat (.int b), .non], st⟩) ⟨a, b, ha, hb, hb2, by have := Nat.gcd_le_right a hb; omega, rfl⟩ fun j x s hj ⟨a, b, h1, h2, h3, h4, es⟩ => by
      obtain ⟨hlt, rfl⟩ := downTo_get _ _ _ _ hj
      subst es
      obtain ⟨c, ec⟩ : ∃ c : Nat, c = 40 - j := ⟨_, rfl⟩
      have e40 : (40 : Int) - (j : Int) = (c : Int) := by omega
      have hc : 2 ≤ c := by omega
      have hcp : 0 < (c : Int) := by omega
      have m1 : ((a : Int) % (c : Int)) = ((a % c : Nat) : Int) := (Int.natCast_emod a c).symm
      have m2 : ((b : Int) % (c : Int)) = ((b % c : Nat) : Int) := (Int.natCast_emod b c).symm
      have d1 : ((a : Int) / (c : Int)) = ((a / c : Nat) : Int) := (Int.natCast_ediv a c).symm
      have d2 : ((b : Int) / (c : Int)) = ((b / c : Nat) : Int) := (Int.natCast_ediv b c).symm
      have g0 := Nat.gcd_pos_of_pos_right a h2
      rw [e40]
      by_cases p : a % c = 0
      · by_cases q : b % c = 0
        · have p' : (((a % c : Nat) : Int) = 0) = True := eq_true (by omega)
          have q' : (((b % c : Nat) : Int) = 0) = True := eq_true (by omega)
          have dv : c ∣ Nat.gcd a b := Nat.dvd_gcd (Nat.dvd_of_mod_eq_zero p) (Nat.dvd_of_mod_eq_zero q)
          have hle := Nat.le_of_dvd g0 dv
          have hg : Nat.gcd a b = c := by omega
          have g1 : Nat.gcd (a / c) (b / c) = 1 := by
            have := Nat.gcd_div (Nat.dvd_of_mod_eq_zero p) (Nat.dvd_of_mod_eq_zero q)
            rw [this, hg, Nat.div_self (by omega)]
          have cb : c ≤ b := Nat.le_of_dvd h2 (Nat.dvd_of_mod_eq_zero q)
          refine ⟨_, .inl (?_ : _ = O.ok Fl.next ⟨[.non, .dat (.int (a / c : Nat)), .dat (.int (b / c : Nat)), .non], st⟩), a / c, b / c, Nat.le_trans (Nat.div_le_self _ _) h1, Nat.div_pos cb (by omega), Nat.le_trans (Nat.div_le_self _ _) h3, by omega, rfl⟩
          push_cast [cTurnL, m1, m2, d1, d2, p', q']
        · have p' : (((a % c : Nat) : Int) = 0) = True := eq_true (by omega)
          have q' : (((b % c : Nat) : Int) = 0) = False := eq_false (by omega)
          refine ⟨_, .inl (?_ : _ = O.ok Fl.next ⟨[.non, .dat (.int a), .dat (.int b), .non], st⟩), a, b, h1, h2, h3, ?_, rfl⟩
          · push_cast [cTurnL, m1, m2, p', q']
          · have : Nat.gcd a b ≠ c := fun e => q (Nat.mod_eq_zero_of_dvd (e ▸ Nat.gcd_dvd_right a b))
            omega
      · have p' : (((a % c : Nat) : Int) = 0) = False := eq_false (by omega)
        refine ⟨_, .inl (?_ : _ = O.ok Fl.next ⟨[.non, .dat (.int a), .dat (.int b), .non], st⟩), a, b, h1, h2, h3, ?_, rfl⟩
        · push_cast [cTurnL, m1, m2, p']
        · have : Nat.gcd a b ≠ c := fun e => p (Nat.mod_eq_zero_of_dvd (e ▸ Nat.gcd_dvd_left a b))
          omega
  subst es
  rw [downTo_len] at h4
  have g0 := Nat.gcd_pos_of_pos_right a' h2
  exact ⟨a', b', .non, h1, h2, h3, by omega, le⟩
theorem fraction_draw {ds : Nat → Option Df} (Q : Dw ds) (h : ds 70 = some f70) {fuel k n : Nat} {st : Sto} (hf : Fe n st) (hn : n ≤ 800000) :
    ∃ (a b n' : Nat) (st' : Sto), (a ≤ 100 ∧ 0 < b ∧ b ≤ 100 ∧ Nat.gcd a b = 1) ∧ Fe n' st' ∧ n' ≤ n + 4 ∧ callN ds fuel (k + 2) 70 [.loc 0] st = .ok (.dat (.tuple [.int a, .int b])) st' := by
  obtain ⟨r1, s1, c1, f1, e1⟩ := draw_run Q (fuel := fuel) (k := k) (many := 8) hf (by omega) (by decide) (by decide)
  obtain ⟨d, md, e2⟩ := pick_mem (xs := [.tuple [.int 1, .int 1], .tuple [.int 1, .int 2], .tuple [.int 3, .int 4], .tuple [.int 0, .int 1], .tuple [.int 2, .int 1], .tuple [.int 7, .int 3], .tuple [.int 99, .int 100], .tuple [.int 1, .int 8]]) (r := r1) (by simp; omega)
  have hd : ∃ a b : Nat, d = .tuple [.int a, .int b] ∧ a ≤ 100 ∧ 0 < b ∧ b ≤ 100 ∧ Nat.gcd a b = 1 := by
    simp only [List.mem_cons, List.not_mem_nil, or_false] at md
    rcases md with rfl | rfl | rfl | rfl | rfl | rfl | rfl | rfl
    · exact ⟨1, 1, rfl, by decide, by decide, by decide, by decide⟩
    · exact ⟨1, 2, rfl, by decide, by decide, by decide, by decide⟩
    · exact ⟨3, 4, rfl, by decide, by decide, by decide, by decide⟩
    · exact ⟨0, 1, rfl, by decide, by decide, by decide, by decide⟩
    · exact ⟨2, 1, rfl, by decide, by decide, by decide, by decide⟩
    · exact ⟨7, 3, rfl, by decide, by decide, by decide, by decide⟩
    · exact ⟨99, 100, rfl, by decide, by decide, by decide, by decide⟩
    · exact ⟨1, 8, rfl, by decide, by decide, by decide, by decide⟩
  obtain ⟨a, b, rfl, h1, h2, h3, h4⟩ := hd
  obtain ⟨r2, s2, c2, f2, e3⟩ := draw_run Q (fuel := fuel) (k := k) (many := 3) f1 (by omega) (by decide) (by decide)
  have rg : rangeD [.int 40, .int 1, .int (-1)] = some (downTo 40 39) := rfl
  have rl : (downTo 40 39).length ≤ lim := by rw [downTo_len]; exact lim_le (by decide)
  by_cases z : (r2 : Int) = 0
  · obtain ⟨r3, s3, c3, f3, e4⟩ := draw_run Q (fuel := fuel) (k := k) (many := 40) f2 (by omega) (by decide) (by decide)
    obtain ⟨r4, s4, c4, f4, e5⟩ := draw_run Q (fuel := fuel) (k := k) (many := 40) f3 (by omega) (by decide) (by decide)
    obtain ⟨a', b', _, g1, g2, g3, g4, le⟩ := part_loop (C := ⟨callN ds fuel (k + 1), fuel⟩) (st := s4) (a := r3) (b := 1 + r4) (by omega) (by omega) (by omega)
    have ec : ((1 + r4 : Nat) : Int) = 1 + (r4 : Int) := by omega
    rw [ec] at le
    refine ⟨a', b', _, s4, ⟨by omega, g2, by omega, g4⟩, f4, by omega, ?_⟩
    rw [callN_eq h]
    generalize downTo 40 39 = R at *
    push_cast [e1, e2, e3, z, e4, e5, rg, rl, le, hf.take f4]
  · refine ⟨a, b, _, s2, ⟨h1, h2, h3, h4⟩, f2, by omega, ?_⟩
    rw [callN_eq h]
    push_cast [e1, e2, e3, z, hf.take f2]
theorem words_draw {ds : Nat → Option Df} (Q : Dw ds) (h : ds 73 = some f73) {fuel k n m : Nat} {st : Sto} (hm : m ≤ 1000) (hf : Fe n st) (hn : n ≤ 700000) :
    ∃ (w : List Int) (n' : Nat) (st' : Sto), (w.length ≤ m ∧ ∀ i ∈ w, 0 ≤ i ∧ i ≤ 1000000) ∧ Fe n' st' ∧ n' ≤ n + 1 + m ∧ callN ds fuel (k + 2) 73 [.loc 0, .dat (.int m)] st = .ok (.dat (.tuple (w.map .int))) st' := by
  obtain ⟨r1, s1, c1, f1, e1⟩ := draw_run Q (fuel := fuel) (k := k) (many := (m : Int) + 1) hf (by omega) (by omega) (by omega)
  have cm := compL_st (f := turnF ⟨callN ds fuel (k + 1), fuel⟩ (.nm 3) [3] .nil (.sub (.var 2) (.call 0 (.cons (.var 0) (.cons (.lit (.int 8)) .nil)) .nil [.inl 0, .inl 1]))) (env := [.loc 0, .dat (.int m), .own [.int 0, .int 1, .int 2, .int 7, .int 9, .int 1000000, .int 999999, .int 99], .non]) (P := fun d => ∃ i : Int, d = .int i ∧ 0 ≤ i ∧ i ≤ 1000000) (Q := fun i st => Fe (n + 1 + i) st) (xs := upTo 0 r1) (acc := []) (i := 0) (st := s1) f1 (fun x mx i st hi q => by
    rw [upTo_len] at hi
    obtain ⟨j, hj, rfl⟩ := List.mem_iff_getElem.mp mx
    obtain ⟨hlt, ex⟩ := upTo_get _ _ _ _ (List.getElem?_eq_getElem hj)
    rw [ex]
    obtain ⟨r, st2, c2, f2, e2⟩ := draw_run Q (fuel := fuel) (k := k) (many := 8) q (by omega) (by decide) (by decide)
    obtain ⟨v, mv, ev⟩ := pick_mem (xs := [PyData.int 0, .int 1, .int 2, .int 7, .int 9, .int 1000000, .int 999999, .int 99]) (r := r) (by simp; omega)
    have hv : ∃ i : Int, v = .int i ∧ 0 ≤ i ∧ i ≤ 1000000 := by
      simp only [List.mem_cons, List.not_mem_nil, or_false] at mv
      rcases mv with rfl | rfl | rfl | rfl | rfl | rfl | rfl | rfl <;> exact ⟨_, rfl, by omega, by omega⟩
    refine ⟨v, st2, ?_, hv, f2⟩
    push_cast [e2, ev]) (by rw [upTo_len, List.length_nil, lim_eq]; omega) (by simp)
  obtain ⟨hs, s2, e2, l2, p2, f2⟩ := cm
  rw [upTo_len, List.length_nil, Nat.zero_add] at l2
  rw [upTo_len, Nat.zero_add] at f2
  have hw : ∃ w : List Int, hs = w.map .int ∧ ∀ i ∈ w, 0 ≤ i ∧ i ≤ 1000000 := by
    clear e2 l2
    induction hs with
    | nil => exact ⟨[], rfl, by simp⟩
    | cons x xs ih =>
      obtain ⟨w, rfl, hw⟩ := ih fun d m => p2 d (List.mem_cons_of_mem _ m)
      obtain ⟨i, rfl, hi⟩ := p2 x List.mem_cons_self
      exact ⟨i :: w, rfl, fun j m => (List.mem_cons.mp m).elim (fun e => e ▸ hi) (hw j)⟩
  obtain ⟨w, rfl, hw⟩ := hw
  rw [List.length_map] at l2
  refine ⟨w, _, s2, ⟨by omega, hw⟩, f2, by omega, ?_⟩
  have rl : (upTo 0 r1).length ≤ lim := by rw [upTo_len]; exact lim_le (by omega)
  rw [callN_eq h]
  push_cast [e1, e2, rl, hf.take f2, show Int.toNat 6 = 6 from rfl, show (10 : Int) ^ (6 : Nat) = 1000000 from rfl]
/-! a purse -/
def MO : List (Nat × Nat) := [(1, 1), (2, 1), (4, 1), (5, 2)]
def RA : List (Nat × Nat) := [(1, 1), (1, 2), (1, 8), (3, 4), (7, 3)]
def HA (m : Nat × Nat) : List (Nat × Nat) := [(0, 1), (1, 2), (1, 1), m]
abbrev fr (p : Nat × Nat) : D := .tuple [.int p.1, .int p.2]
abbrev pu (h r m : Nat × Nat) : D := .tuple [fr h, fr r, fr m]
/-- what a drawn purse is -/
structure Pu (h r m : Nat × Nat) : Prop where
  h0 : h.1 ≤ 8 ∧ 0 < h.2 ∧ h.2 ≤ 8 ∧ Nat.gcd h.1 h.2 = 1
  r0 : 0 < r.1 ∧ r.1 ≤ 8 ∧ 0 < r.2 ∧ r.2 ≤ 8 ∧ Nat.gcd r.1 r.2 = 1
  m0 : m.1 ≤ 8 ∧ 0 < m.2 ∧ m.2 ≤ 8 ∧ Nat.gcd m.1 m.2 = 1
  le1 : m.2 ≤ m.1
  le : h.1 * m.2 ≤ m.1 * h.2
def puB (h r m : Nat × Nat) : Bool := decide ((h.1 ≤ 8 ∧ 0 < h.2 ∧ h.2 ≤ 8 ∧ Nat.gcd h.1 h.2 = 1) ∧ (0 < r.1 ∧ r.1 ≤ 8 ∧ 0 < r.2 ∧ r.2 ≤ 8 ∧ Nat.gcd r.1 r.2 = 1) ∧ (m.1 ≤ 8 ∧ 0 < m.2 ∧ m.2 ≤ 8 ∧ Nat.gcd m.1 m.2 = 1) ∧ m.2 ≤ m.1 ∧ h.1 * m.2 ≤ m.1 * h.2)
theorem pu_all : (MO.all fun m => RA.all fun r => (HA m).all fun h => puB h r m) = true := by decide +kernel
theorem pu_ok {h r m : Nat × Nat} (h1 : m ∈ MO) (h2 : r ∈ RA) (h3 : h ∈ HA m) : Pu h r m := by
  have := List.all_eq_true.mp (List.all_eq_true.mp (List.all_eq_true.mp pu_all m h1) r h2) h h3
  simp only [puB, decide_eq_true_eq] at this
  exact ⟨this.1, this.2.1, this.2.2.1, this.2.2.2.1, this.2.2.2.2⟩
theorem purse_draw2 {ds : Nat → Option Df} (Q : Dw ds) (h : ds 71 = some f71) {fuel k n : Nat} {st : Sto} (hf : Fe n st) (hn : n ≤ 800000) :
    ∃ (a r m : Nat × Nat) (st' : Sto), (Pu a r m ∧ m ∈ MO ∧ r ∈ RA ∧ a ∈ HA m) ∧ Fe (n + 3) st' ∧ callN ds fuel (k + 2) 71 [.loc 0] st = .ok (.dat (pu a r m)) st' := by
  obtain ⟨r1, s1, c1, f1, e1⟩ := draw_run Q (fuel := fuel) (k := k) (many := 4) hf (by omega) (by decide) (by decide)
  obtain ⟨d1, m1, p1⟩ := pick_mem (xs := MO.map fr) (r := r1) (by simp [MO]; omega)
  obtain ⟨m, hm, rfl⟩ := List.mem_map.mp m1
  obtain ⟨r2, s2, c2, f2, e2⟩ := draw_run Q (fuel := fuel) (k := k) (many := 5) f1 (by omega) (by decide) (by decide)
  obtain ⟨d2, m2, p2⟩ := pick_mem (xs := RA.map fr) (r := r2) (by simp [RA]; omega)
  obtain ⟨r, hr, rfl⟩ := List.mem_map.mp m2
  obtain ⟨r3, s3, c3, f3, e3⟩ := draw_run Q (fuel := fuel) (k := k) (many := 4) f2 (by omega) (by decide) (by decide)
  obtain ⟨d3, m3, p3⟩ := pick_mem (xs := (HA m).map fr) (r := r3) (by simp [HA]; omega)
  obtain ⟨a, ha, rfl⟩ := List.mem_map.mp m3
  have p1 : L2.atI [PyData.tuple [.int 1, .int 1], .tuple [.int 2, .int 1], .tuple [.int 4, .int 1], .tuple [.int 5, .int 2]] (r1 : Int) = some (fr m) := p1
  have p2 : L2.atI [PyData.tuple [.int 1, .int 1], .tuple [.int 1, .int 2], .tuple [.int 1, .int 8], .tuple [.int 3, .int 4], .tuple [.int 7, .int 3]] (r2 : Int) = some (fr r) := p2
  have p3 : L2.atI [PyData.tuple [.int 0, .int 1], .tuple [.int 1, .int 2], .tuple [.int 1, .int 1], fr m] (r3 : Int) = some (fr a) := p3
  have ok := pu_ok hm hr ha
  refine ⟨a, r, m, s3, ⟨ok, hm, hr, ha⟩, f3, ?_⟩
  show _ = OC.ok (RV.dat (.tuple [fr a, fr r, fr m])) _
  generalize fr a = A at *
  generalize fr r = R at *
  generalize fr m = M at *
  rw [callN_eq h]
  push_cast [e1, e2, e3, p1, p2, p3, hf.take f3]
theorem purse_draw {ds : Nat → Option Df} (Q : Dw ds) (h : ds 71 = some f71) {fuel k n : Nat} {st : Sto} (hf : Fe n st) (hn : n ≤ 800000) :
    ∃ (a r m : Nat × Nat) (st' : Sto), Pu a r m ∧ Fe (n + 3) st' ∧ callN ds fuel (k + 2) 71 [.loc 0] st = .ok (.dat (pu a r m)) st' := by
  obtain ⟨a, r, m, st', h1, h2, h3⟩ := purse_draw2 Q h (fuel := fuel) (k := k) hf hn
  exact ⟨a, r, m, st', h1.1, h2, h3⟩
/-! a stretch -/
def ownF (ws : List Str) (w : Str) : D → Option D
  | .int i => if ws[i.toNat]? = some w then some (.int i) else none
  | _ => none
theorem stretch_draw {ds : Nat → Option Df} (Q : Dw ds) (h : ds 72 = some f72) {fuel k n : Nat} {st : Sto} {ws : List Str} {w : Str} (hw : ws.length ≤ 1000) (hf : Fe n st) (hn : n ≤ 800000) :
    ∃ (p a l n' : Nat) (st' : Sto), (p ≤ ws.length ∧ a ≤ 7 ∧ a + l ≤ 8) ∧ Fe n' st' ∧ n' ≤ n + 10 ∧ callN ds fuel (k + 2) 72 [.loc 0, .dat (.tuple (ws.map .str)), .dat (.str w)] st = .ok (.dat (.tuple [.int p, .int a, .int l])) st' := by
  have hwl : ws.length ≤ 16777216 := by omega
  have cm : compL (turnF ⟨callN ds fuel (k + 1), fuel⟩ (.nm 4) [4] (.cons (.cmp .eq (.sub (.var 1) (.var 4)) (.var 2)) .nil) (.var 4)) (upTo 0 ws.length) [] ⟨[.loc 0, .dat (.tuple (ws.map .str)), .dat (.str w), .non, .non, .non], st⟩ = .ok ((upTo 0 ws.length).filterMap (ownF ws w)) ⟨[.loc 0, .dat (.tuple (ws.map .str)), .dat (.str w), .non, .non, .non], st⟩ := by
    rw [compL_pure (g := ownF ws w) (fun x mx => ?_) (by rw [upTo_len, List.length_nil, lim_eq]; omega)]
    · rw [List.nil_append]
    · obtain ⟨j, hj, rfl⟩ := List.mem_iff_getElem.mp mx
      obtain ⟨hlt, ex⟩ := upTo_get _ _ _ _ (List.getElem?_eq_getElem hj)
      rw [Int.zero_add] at ex
      rw [ex]
      have hj2 : j < (ws.map PyData.str).length := by rw [List.length_map]; exact hlt
      have ea := q_atN (xs := ws.map PyData.str) (i := j) hj2
      rw [List.getElem_map] at ea
      have eg : ws[j]? = some ws[j] := List.getElem?_eq_getElem hlt
      by_cases c : ws[j] = w
      · have hb : ownF ws w (.int j) = some (.int j) := if_pos (by rw [Int.toNat_natCast, eg, c])
        push_cast [ea, c, hb]
      · have hb : ownF ws w (.int j) = none := if_neg (by rw [Int.toNat_natCast, eg]; exact fun e => c (Option.some.inj e))
        push_cast [ea, c, hb]
  have hL : ∀ d ∈ (upTo 0 ws.length).filterMap (ownF ws w), ∃ i : Nat, d = .int i ∧ i < ws.length := by
    intro d md
    obtain ⟨x, mx, ex⟩ := List.mem_filterMap.mp md
    obtain ⟨j, hj, rfl⟩ := List.mem_iff_getElem.mp mx
    obtain ⟨hlt, ey⟩ := upTo_get _ _ _ _ (List.getElem?_eq_getElem hj)
    rw [Int.zero_add] at ey
    rw [ey] at ex
    by_cases c : ws[((j : Int)).toNat]? = some w
    · have hb : ownF ws w (.int j) = some (.int j) := if_pos c
      rw [hb] at ex
      exact ⟨j, (Option.some.inj ex).symm, hlt⟩
    · have hb : ownF ws w (.int j) = none := if_neg c
      rw [hb] at ex
      cases ex
  have hLl : ((upTo 0 ws.length).filterMap (ownF ws w)).length ≤ ws.length := by
    have := List.length_filterMap_le (ownF ws w) (upTo 0 ws.length)
    rw [upTo_len] at this
    exact this
  generalize (upTo 0 ws.length).filterMap (ownF ws w) = L at *
  have hi : ∃ is : List Int, L = is.map .int := by
    clear cm hLl
    induction L with
    | nil => exact ⟨[], rfl⟩
    | cons x xs ih =>
      obtain ⟨is, rfl⟩ := ih fun d m => hL d (List.mem_cons_of_mem _ m)
      obtain ⟨i, rfl, _⟩ := hL x List.mem_cons_self
      exact ⟨i :: is, rfl⟩
  have hne : cmpD .ne (.list L) (.list []) = some (!L.isEmpty) := by
    obtain ⟨is, rfl⟩ := hi
    show (if shp _ && shp (.list []) then some (!PyData.eqv _ _) else none) = _
    rw [Rng.shp_ints]
    cases is with
    | nil => rfl
    | cons i is => rfl
  -- the page
  have hpage : ∃ (p n1 : Nat) (s1 : Sto), p ≤ ws.length ∧ Fe n1 s1 ∧ n1 ≤ n + 3 ∧ exs ⟨callN ds fuel (k + 1), fuel⟩ f72_3 ⟨[.loc 0, .dat (.tuple (ws.map .str)), .dat (.str w), .own L, .non, .non], st⟩ = exs ⟨callN ds fuel (k + 1), fuel⟩ f72_1 ⟨[.loc 0, .dat (.tuple (ws.map .str)), .dat (.str w), .own L, .dat (.int p), .non], s1⟩ := by
    have tail : ∀ (n1 : Nat) (s1 : Sto), Fe n1 s1 → n1 ≤ n + 2 → ∃ (p n2 : Nat) (s2 : Sto), p ≤ ws.length ∧ Fe n2 s2 ∧ n2 ≤ n + 3 ∧ exs ⟨callN ds fuel (k + 1), fuel⟩ f72_2 ⟨[.loc 0, .dat (.tuple (ws.map .str)), .dat (.str w), .own L, .dat .none, .non], s1⟩ = exs ⟨callN ds fuel (k + 1), fuel⟩ f72_1 ⟨[.loc 0, .dat (.tuple (ws.map .str)), .dat (.str w), .own L, .dat (.int p), .non], s2⟩ := by
      intro n1 s1 f1 l1
      obtain ⟨r, s2, c2, f2, e2⟩ := draw_run Q (fuel := fuel) (k := k) (many := (ws.length : Int) + 1) f1 (by omega) (by omega) (by omega)
      refine ⟨r, _, s2, by omega, f2, by omega, ?_⟩
      unfold f72_2
      generalize f72_1 = b
      push_cast [e2, List.length_map]
    cases hE : L.isEmpty with
    | true =>
      rw [hE] at hne
      obtain ⟨p, n2, s2, hp, f2, l2, e2⟩ := tail n st hf (by omega)
      refine ⟨p, n2, s2, hp, f2, l2, ?_⟩
      rw [← e2]
      unfold f72_3
      generalize f72_2 = b
      push_cast [hne]
    | false =>
      rw [hE] at hne
      have hpos : 0 < L.length := by
        cases L with
        | nil => cases hE
        | cons _ _ => simp
      obtain ⟨r1, s1, c1, f1, e1⟩ := draw_run Q (fuel := fuel) (k := k) (many := 9) hf (by omega) (by decide) (by decide)
      by_cases c : 0 < (r1 : Int)
      · obtain ⟨r2, s2, c2, f2, e2⟩ := draw_run Q (fuel := fuel) (k := k) (many := (L.length : Int)) f1 (by omega) (by omega) (by omega)
        obtain ⟨d, md, ed⟩ := pick_mem (xs := L) (r := r2) (by omega)
        obtain ⟨i, rfl, hil⟩ := hL d md
        refine ⟨i, _, s2, by omega, f2, by omega, ?_⟩
        have hLim : L.length ≤ 1000 := by omega
        unfold f72_3 f72_2
        generalize f72_1 = b
        push_cast [hne, e1, c, e2, ed]
      · obtain ⟨p, n2, s2, hp, f2, l2, e2⟩ := tail (n + 1) s1 f1 (by omega)
        refine ⟨p, n2, s2, hp, f2, l2, ?_⟩
        rw [← e2]
        unfold f72_3
        generalize f72_2 = b
        push_cast [hne, e1, c]
  obtain ⟨p, n1, s1, hp, f1, l1, e1⟩ := hpage
  obtain ⟨r2, s2, c2, f2, e2⟩ := draw_run Q (fuel := fuel) (k := k) (many := 8) f1 (by omega) (by decide) (by decide)
  obtain ⟨r3, s3, c3, f3, e3⟩ := draw_run Q (fuel := fuel) (k := k) (many := 4) f2 (by omega) (by decide) (by decide)
  obtain ⟨d, md, ed⟩ := pick_mem (xs := [PyData.int 0, .int 0, .int 4, .int r2]) (r := r3) (by simp; omega)
  have ha : ∃ a : Nat, d = .int a ∧ a ≤ 7 := by
    simp only [List.mem_cons, List.not_mem_nil, or_false] at md
    rcases md with rfl | rfl | rfl | rfl
    · exact ⟨0, rfl, by omega⟩
    · exact ⟨0, rfl, by omega⟩
    · exact ⟨4, rfl, by omega⟩
    · exact ⟨r2, rfl, by omega⟩
  obtain ⟨a, rfl, ha⟩ := ha
  obtain ⟨r4, s4, c4, f4, e4⟩ := draw_run Q (fuel := fuel) (k := k) (many := 9 - (a : Int)) f3 (by omega) (by omega) (by omega)
  obtain ⟨r5, s5, c5, f5, e5⟩ := draw_run Q (fuel := fuel) (k := k) (many := 4) f4 (by omega) (by decide) (by decide)
  obtain ⟨mn, emn, hmn⟩ : ∃ mn : Nat, biD .min [.int 2, .int (8 - (a : Int))] = some (.dat (.int mn)) ∧ mn + a ≤ 8 := by
    by_cases c : 8 - (a : Int) < 2
    · refine ⟨8 - a, ?_, by omega⟩
      have e : ((8 - a : Nat) : Int) = 8 - (a : Int) := by omega
      have hlt : 8 - (a : Int) < 2 := c
      rw [e, q_min]
      congr 3
      omega
    · refine ⟨2, ?_, by omega⟩
      rw [q_min]
      congr 3
      omega
  obtain ⟨d2, md2, ed2⟩ := pick_mem (xs := [PyData.int (8 - (a : Int)), .int (8 - (a : Int)), .int mn, .int r4]) (r := r5) (by simp; omega)
  have hl : ∃ l : Nat, d2 = .int l ∧ a + l ≤ 8 := by
    have e : ((8 - a : Nat) : Int) = 8 - (a : Int) := by omega
    simp only [List.mem_cons, List.not_mem_nil, or_false] at md2
    rcases md2 with rfl | rfl | rfl | rfl
    · exact ⟨8 - a, by rw [e], by omega⟩
    · exact ⟨8 - a, by rw [e], by omega⟩
    · exact ⟨mn, rfl, by omega⟩
    · exact ⟨r4, rfl, by omega⟩
  obtain ⟨l, rfl, hl⟩ := hl
  refine ⟨p, a, l, _, s5, ⟨hp, ha, hl⟩, f5, by omega, ?_⟩
  have rl : (upTo 0 ws.length).length ≤ lim := by rw [upTo_len]; exact lim_le (by omega)
  have e1f : exs ⟨callN ds fuel (k + 1), fuel⟩ f72_1 ⟨[.loc 0, .dat (.tuple (ws.map .str)), .dat (.str w), .own L, .dat (.int p), .non], s1⟩ = .ok (.ret (.dat (.tuple [.int p, .int a, .int l]))) ⟨[.loc 0, .dat (.tuple (ws.map .str)), .dat (.str w), .own L, .dat (.int p), .dat (.int a)], s5⟩ := by
    push_cast [e2, e3, ed, e4, e5, emn, ed2]
  rw [e1f] at e1
  rw [callN_eq h]
  have hmapl : (ws.map PyData.str).length ≤ 1000 := by rw [List.length_map]; exact hw
  have s0 : exs ⟨callN ds fuel (k + 1), fuel⟩ f72_4 ⟨[.loc 0, .dat (.tuple (ws.map .str)), .dat (.str w), .non, .non, .non], st⟩ = exs ⟨callN ds fuel (k + 1), fuel⟩ f72_3 ⟨[.loc 0, .dat (.tuple (ws.map .str)), .dat (.str w), .own L, .non, .non], st⟩ := by
    unfold f72_4
    generalize f72_3 = b
    push_cast [List.length_map, rl, cm]
  have := s0.trans e1
  push_cast [this, hf.take f5]
end Drw
end
section
set_option Elab.async false
set_option linter.all false
namespace Fra
/-! fractions over natural numbers: in the least figures -/
abbrev Q := Nat × Nat
structure Fq (p : Q) : Prop where
  d : 0 < p.2
  g : Nat.gcd p.1 p.2 = 1
def rat (a b : Nat) : Q := (a / Nat.gcd a b, b / Nat.gcd a b)
/-- p is a over b -/
structure R (p : Q) (a b : Nat) : Prop where
  q : Fq p
  pos : 0 < b
  e : p.1 * b = a * p.2
theorem R.self {p : Q} (h : Fq p) : R p p.1 p.2 := ⟨h, h.d, rfl⟩
theorem R.rat {a b : Nat} (hb : 0 < b) : R (rat a b) a b := by
  have g0 := Nat.gcd_pos_of_pos_right a hb
  have h1 := Nat.gcd_dvd_left a b
  have h2 := Nat.gcd_dvd_right a b
  refine ⟨⟨Nat.div_pos (Nat.le_of_dvd hb h2) g0, ?_⟩, hb, ?_⟩
  · show Nat.gcd (a / Nat.gcd a b) (b / Nat.gcd a b) = 1
    rw [Nat.gcd_div h1 h2, Nat.div_self g0]
  · show a / Nat.gcd a b * b = a * (b / Nat.gcd a b)
    obtain ⟨c, hc⟩ := h1
    obtain ⟨d, hd⟩ := h2
    generalize Nat.gcd a b = g at *
    subst hc hd
    rw [Nat.mul_div_cancel_left _ g0, Nat.mul_div_cancel_left _ g0, Nat.mul_left_comm c g d, Nat.mul_assoc g c d]
theorem rat_le {a b : Nat} : (rat a b).1 ≤ a ∧ (rat a b).2 ≤ b := ⟨Nat.div_le_self _ _, Nat.div_le_self _ _⟩
/-- two in the least figures that are as great are one -/
theorem uniq {p q : Q} (hp : Fq p) (hq : Fq q) (h : p.1 * q.2 = q.1 * p.2) : p = q := by
  have c1 : Nat.Coprime p.1 p.2 := hp.g
  have c2 : Nat.Coprime q.1 q.2 := hq.g
  have d1 : p.2 ∣ q.2 := by
    have : p.2 ∣ p.1 * q.2 := ⟨q.1, by rw [h, Nat.mul_comm]⟩
    exact (Nat.Coprime.symm c1).dvd_of_dvd_mul_left this
  have d2 : q.2 ∣ p.2 := by
    have : q.2 ∣ q.1 * p.2 := ⟨p.1, by rw [← h, Nat.mul_comm]⟩
    exact (Nat.Coprime.symm c2).dvd_of_dvd_mul_left this
  have e2 : p.2 = q.2 := Nat.dvd_antisymm d1 d2
  have e1 : p.1 = q.1 := by
    rw [e2] at h
    exact Nat.eq_of_mul_eq_mul_right hq.d h
  exact Prod.ext e1 e2
theorem R.uniq {p q : Q} {a b c d : Nat} (hp : R p a b) (hq : R q c d) (h : a * d = c * b) : p = q := by
  refine Fra.uniq hp.q hq.q ?_
  have e1 := hp.e
  have e2 := hq.e
  have hb := hp.pos
  have hd := hq.pos
  have : (p.1 * q.2) * (b * d) = (q.1 * p.2) * (b * d) := by grind
  exact Nat.eq_of_mul_eq_mul_right (Nat.mul_pos hb hd) this
def add (p q : Q) : Q := rat (p.1 * q.2 + q.1 * p.2) (p.2 * q.2)
def mul (p q : Q) : Q := rat (p.1 * q.1) (p.2 * q.2)
def sub (p q : Q) : Q := rat (p.1 * q.2 - q.1 * p.2) (p.2 * q.2)
def lt (p q : Q) : Bool := decide (p.1 * q.2 < q.1 * p.2)
def les (p q : Q) : Q := if lt q p then q else p
theorem R.mono {p : Q} {a b c d : Nat} (h : R p a b) (hd : 0 < d) (e : a * d = c * b) : R p c d := by
  refine ⟨h.q, hd, ?_⟩
  have e1 := h.e
  have : (p.1 * d) * b = (c * p.2) * b := by grind
  exact Nat.eq_of_mul_eq_mul_right h.pos this
theorem R.add {p q : Q} {a b c d : Nat} (hp : R p a b) (hq : R q c d) : R (add p q) (a * d + c * b) (b * d) := by
  have h := R.rat (a := p.1 * q.2 + q.1 * p.2) (Nat.mul_pos hp.q.d hq.q.d)
  refine h.mono (Nat.mul_pos hp.pos hq.pos) ?_
  have e1 := hp.e
  have e2 := hq.e
  grind
theorem R.mul {p q : Q} {a b c d : Nat} (hp : R p a b) (hq : R q c d) : R (mul p q) (a * c) (b * d) := by
  have h := R.rat (a := p.1 * q.1) (Nat.mul_pos hp.q.d hq.q.d)
  refine h.mono (Nat.mul_pos hp.pos hq.pos) ?_
  have e1 := hp.e
  have e2 := hq.e
  grind
theorem R.lt {p q : Q} {a b c d : Nat} (hp : R p a b) (hq : R q c d) : lt p q = decide (a * d < c * b) := by
  unfold Fra.lt
  refine decide_eq_decide.mpr ?_
  have e1 := hp.e
  have e2 := hq.e
  have h1 : (p.1 * q.2) * (b * d) = (a * d) * (p.2 * q.2) := by grind
  have h2 : (q.1 * p.2) * (b * d) = (c * b) * (p.2 * q.2) := by grind
  have k1 := Nat.mul_pos hp.pos hq.pos
  have k2 := Nat.mul_pos hp.q.d hq.q.d
  constructor
  · intro h
    have := Nat.mul_lt_mul_of_pos_right h k1
    rw [h1, h2] at this
    exact Nat.lt_of_mul_lt_mul_right this
  · intro h
    have := Nat.mul_lt_mul_of_pos_right h k2
    rw [← h1, ← h2] at this
    exact Nat.lt_of_mul_lt_mul_right this
theorem R.sub {p q : Q} {a b c d : Nat} (hp : R p a b) (hq : R q c d) (h : c * b ≤ a * d) : R (sub p q) (a * d - c * b) (b * d) := by
  have h0 := R.rat (a := p.1 * q.2 - q.1 * p.2) (Nat.mul_pos hp.q.d hq.q.d)
  refine h0.mono (Nat.mul_pos hp.pos hq.pos) ?_
  have e1 := hp.e
  have e2 := hq.e
  rw [Nat.sub_mul, Nat.sub_mul]
  have h1 : (p.1 * q.2) * (b * d) = (a * d) * (p.2 * q.2) := by grind
  have h2 : (q.1 * p.2) * (b * d) = (c * b) * (p.2 * q.2) := by grind
  rw [h1, h2]
theorem Fq.rat {a b : Nat} (h : 0 < b) : Fq (rat a b) := (R.rat h).q
theorem Fq.add {p q : Q} (hp : Fq p) (hq : Fq q) : Fq (add p q) := (R.add (.self hp) (.self hq)).q
theorem Fq.mul {p q : Q} (hp : Fq p) (hq : Fq q) : Fq (mul p q) := (R.mul (.self hp) (.self hq)).q
theorem Fq.les {p q : Q} (hp : Fq p) (hq : Fq q) : Fq (les p q) := by
  unfold Fra.les; split
  · exact hq
  · exact hp
end Fra
end
section
set_option Elab.async false
set_option linter.all false
namespace Fra
/-! laws of fractions in the least figures -/
section
variable {p q r : Q}
theorem add_comm (hp : Fq p) (hq : Fq q) : add p q = add q p :=
  (R.add (.self hp) (.self hq)).uniq (R.add (.self hq) (.self hp)) (by grind)
theorem mul_comm (hp : Fq p) (hq : Fq q) : mul p q = mul q p :=
  (R.mul (.self hp) (.self hq)).uniq (R.mul (.self hq) (.self hp)) (by grind)
theorem add_assoc (hp : Fq p) (hq : Fq q) (hr : Fq r) : add (add p q) r = add p (add q r) :=
  (R.add (R.add (.self hp) (.self hq)) (.self hr)).uniq (R.add (.self hp) (R.add (.self hq) (.self hr))) (by grind)
theorem mul_assoc (hp : Fq p) (hq : Fq q) (hr : Fq r) : mul (mul p q) r = mul p (mul q r) :=
  (R.mul (R.mul (.self hp) (.self hq)) (.self hr)).uniq (R.mul (.self hp) (R.mul (.self hq) (.self hr))) (by grind)
theorem mul_add (hp : Fq p) (hq : Fq q) (hr : Fq r) : mul p (add q r) = add (mul p q) (mul p r) :=
  (R.mul (.self hp) (R.add (.self hq) (.self hr))).uniq (R.add (R.mul (.self hp) (.self hq)) (R.mul (.self hp) (.self hr))) (by grind)
theorem lt_add (hp : Fq p) (hq : Fq q) (hr : Fq r) : lt (add p r) (add q r) = lt p q := by
  rw [R.lt (R.add (.self hp) (.self hr)) (R.add (.self hq) (.self hr))]
  unfold lt
  refine decide_eq_decide.mpr ?_
  have k : 0 < r.2 * r.2 := Nat.mul_pos hr.d hr.d
  have h1 : (p.1 * r.2 + r.1 * p.2) * (q.2 * r.2) = (p.1 * q.2) * (r.2 * r.2) + r.1 * p.2 * (q.2 * r.2) := by grind
  have h2 : (q.1 * r.2 + r.1 * q.2) * (p.2 * r.2) = (q.1 * p.2) * (r.2 * r.2) + r.1 * p.2 * (q.2 * r.2) := by grind
  rw [h1, h2]
  constructor
  · intro h
    exact Nat.lt_of_mul_lt_mul_right (Nat.lt_of_add_lt_add_right h)
  · intro h
    exact Nat.add_lt_add_right (Nat.mul_lt_mul_of_pos_right h k) _
theorem sub_add (hp : Fq p) (hq : Fq q) : lt (add p q) q = false ∧ sub (add p q) q = p := by
  have ha := R.add (.self hp) (.self hq)
  have le : q.1 * (p.2 * q.2) ≤ (p.1 * q.2 + q.1 * p.2) * q.2 := by
    have : (p.1 * q.2 + q.1 * p.2) * q.2 = q.1 * (p.2 * q.2) + p.1 * q.2 * q.2 := by grind
    omega
  refine ⟨?_, ?_⟩
  · rw [ha.lt (.self hq)]
    exact decide_eq_false (by omega)
  · refine (ha.sub (.self hq) le).uniq (.self hp) ?_
    have : (p.1 * q.2 + q.1 * p.2) * q.2 = q.1 * (p.2 * q.2) + p.1 * q.2 * q.2 := by grind
    rw [this, Nat.add_sub_cancel_left]
    grind
theorem trich (hp : Fq p) (hq : Fq q) : [lt p q, decide (p = q), lt q p].count true = 1 := by
  unfold lt
  by_cases c : p.1 * q.2 < q.1 * p.2
  · have h1 : ¬ q.1 * p.2 < p.1 * q.2 := by omega
    have h2 : ¬ p = q := fun e => by subst e; omega
    simp [c, h1, h2]
  · by_cases d : q.1 * p.2 < p.1 * q.2
    · have h2 : ¬ p = q := fun e => by subst e; omega
      simp [c, d, h2]
    · have h2 : p = q := uniq hp hq (by omega)
      simp [c, d, h2]
theorem lt_les1 : lt p (les p q) = false := by
  unfold les
  cases h : lt q p with
  | true =>
    unfold lt at h ⊢
    simp only [if_true, decide_eq_false_iff_not, decide_eq_true_eq] at h ⊢
    omega
  | false =>
    unfold lt
    simp
theorem lt_les2 : lt q (les p q) = false := by
  unfold les
  cases h : lt q p with
  | true => unfold lt; simp
  | false => simpa using h
theorem les_or : les p q = p ∨ les p q = q := by
  unfold les; split
  · exact .inr rfl
  · exact .inl rfl
theorem fqn {t : Nat} : Fq (t, 1) := ⟨Nat.one_pos, Nat.gcd_one_right t⟩
theorem rat_one {t : Nat} : rat t 1 = (t, 1) := by
  unfold rat
  rw [Nat.gcd_one_right, Nat.div_one]
/-! ### a purse filled -/
def fil (h r m : Q) (t : Nat) : Q := les (add h (mul r (t, 1))) m
variable {h m : Q}
theorem fil_fq (hh : Fq h) (hr : Fq r) (hm : Fq m) {t : Nat} : Fq (fil h r m t) := .les (.add hh (.mul hr fqn)) hm
theorem fil_R (hh : Fq h) (hr : Fq r) (t : Nat) : R (add h (mul r (t, 1))) (h.1 * r.2 + r.1 * t * h.2) (h.2 * r.2) := by
  have e := R.add (.self hh) (R.mul (.self hr) (.self (fqn (t := t))))
  refine e.mono (Nat.mul_pos hh.d hr.d) ?_
  grind
theorem fil_zero (hh : Fq h) (hr : Fq r) (hm : Fq m) (le : h.1 * m.2 ≤ m.1 * h.2) : fil h r m 0 = h := by
  have e : add h (mul r (0, 1)) = h := (fil_R hh hr 0).uniq (.self hh) (by grind)
  unfold fil
  rw [e]
  unfold les
  have : lt m h = false := by unfold lt; exact decide_eq_false (by omega)
  rw [this]; rfl
theorem fil_add (hh : Fq h) (hr : Fq r) (hm : Fq m) (s t : Nat) : fil (fil h r m s) r m t = fil h r m (s + t) := by
  have e1 := fil_R hh hr s
  have e2 := fil_R hh hr (s + t)
  cases c : lt m (add h (mul r (s, 1))) with
  | true =>
    have a1 : fil h r m s = m := by unfold fil les; rw [c]; rfl
    have c1 := c
    rw [(R.self hm).lt e1] at c1
    simp only [decide_eq_true_eq] at c1
    have a2 : fil h r m (s + t) = m := by
      unfold fil les
      have : lt m (add h (mul r (s + t, 1))) = true := by
        rw [(R.self hm).lt e2]
        refine decide_eq_true (Nat.lt_of_lt_of_le c1 (Nat.mul_le_mul_right _ ?_))
        have : r.1 * s * h.2 ≤ r.1 * (s + t) * h.2 := Nat.mul_le_mul_right _ (Nat.mul_le_mul_left _ (by omega))
        omega
      rw [this]; rfl
    rw [a1, a2]
    have e3 := fil_R hm hr t
    unfold fil les
    cases d : lt m (add m (mul r (t, 1))) with
    | true => rfl
    | false =>
      rw [(R.self hm).lt e3] at d
      simp only [decide_eq_false_iff_not] at d
      have : add m (mul r (t, 1)) = m := e3.uniq (.self hm) (by
        have : (m.1 * r.2 + r.1 * t * m.2) * m.2 = m.1 * (m.2 * r.2) + r.1 * t * m.2 * m.2 := by grind
        omega)
      simpa using this
  | false =>
    have a1 : fil h r m s = add h (mul r (s, 1)) := by unfold fil les; rw [c]; rfl
    rw [a1]
    have : add (add h (mul r (s, 1))) (mul r (t, 1)) = add h (mul r (s + t, 1)) := by
      refine (R.add e1 (R.mul (.self hr) (.self (fqn (t := t))))).uniq e2 ?_
      grind
    unfold fil
    rw [this]
theorem fil_le (hh : Fq h) (hr : Fq r) (hm : Fq m) {t : Nat} : (fil h r m t).1 * m.2 ≤ m.1 * (fil h r m t).2 := by
  have := lt_les2 (p := add h (mul r (t, 1))) (q := m)
  unfold lt at this
  simp only [decide_eq_false_iff_not] at this
  unfold fil
  omega
end
end Fra
end
section
set_option Elab.async false
set_option linter.all false
set_option maxRecDepth 20000
open PySem L2 Pur
namespace Frx
local macro_rules | `(tactic| push_cast [$xs,*]) => `(tactic| simp (implicitDefEqProofs := false) (disch := (first | assumption | exact ⟨rfl, by decide⟩ | exact okI_of (by omega) | exact mulOk_64 (by omega) (by omega) | exact fdiv_64 (by omega) (by omega) | (simp only [lim_eq, List.length_append, List.length_map, List.length_cons, List.length_nil, List.length_reverse, List.length_take, List.length_drop, List.length_replicate, List.length_range, upTo_len, enumD_len, zipD_len]; omega) | omega | (simp only [shp_sh, sh_n, sh_b, sh_i, sh_s, sh_T, sh_L, sh_ints, List.all_cons, List.all_nil, List.all_append, Bool.and_self, Bool.and_true]; first | done | decide))) only [cTst, cNeg, cNt, cAnd, cOr, cBin2, cBin, cCmp2, cCmp, cIte, cTup, cLst, cSub2, cSub, cSl3, cSl2, cSl, cCall2, cCall, cBi, cIsi, cDict, cComp, cTs, cO, cSeq, cRange, cEnum, cDs3, cDs2, cDs, cKs3, cKs2, cKs, cRs, cPs2, cPs, cNext, cAsg, cPar, cSetRs, cPut4, cPut3, cPut2, cPut, cRet, cIf, cSeqS, cFor, cSetSlot, cApp2, cApp, cExt, cComp7, r_tst, r_neg, r_nt, r_and, r_or, r_bin, r_cmp, r_ite, r_tup, r_lst, r_sub, r_slice, r_call, r_bi, r_isi, r_dict, r_comp, r_Ts, r_yes, r_seq, r_range, r_enum, r_Ds, r_Ks, r_Rs, r_Ps, r_seqS, r_asg, r_par, r_put, r_expr, r_ret, r_ifs, r_for, r_setRs, r_setSlot, r_app, r_ext, r_kcomp, q_var_d, q_var_o, q_var_l, q_var_n, q_tst, q_neg, q_andT, q_andF, q_orT, q_orF, q_bin, q_cmp, q_of, q_subL, q_look, q_subD, q_subF, q_subS, q_sub2, q_sl, q_call, q_up, q_bi, q_isi, q_iteT, q_iteF, q_tsT, q_tsF, q_seq, q_lendD, q_lendF, q_lendS, q_enumT, q_enumL, q_o, q_app, q_ext, q_esc_o, q_escD_o, q_res_o, q_res_l, q_res_d, q_nx, q_rt, q_bk, q_ct, q_ifT, q_ifF, q_put, q_putS, q_putOk, q_P_f, q_P_d, q_P_l, q_P_s, q_set, q_setT, q_setS, q_setTs, q_fr_d, q_fr_o, q_fr_n, q_fr_l, q_lo_d, q_lo_n, q_lo_l, q_tru_b, q_tru_i, q_tru_t, q_tru_l, q_tru_n, q_add, q_sub, q_mul, q_fdiv, q_mod, q_pow, q_addL, q_addT, q_lt, q_le, q_gt, q_ge, q_eqS, q_neS, q_eqI, q_isN, q_isnN, q_isB, q_tsub, q_lsub, q_lenL, q_lenT, q_tupL, q_tupT, q_lstL, q_lstT, q_repr, q_max, q_min, q_kI, q_kS, q_sqL, q_sqT, q_evD, q_evL, q_argN, q_argC, q_arg, q_argD, q_at0, q_at1, q_at2, q_at3, q_run, q_finD, q_finF, q_finN, q_finS, q_finO, q_finL, evTs_nil, evO_no, evDs_nil, evKs_nil, evRs_nil, evPs_nil, exs_nil, ex_retN, ex_pass, ex_brk, ex_cont, ev_var, ev_lit, ev_glob, ev_app, ev_ext, esc_dat, esc_fresh, esc_loc, esc_slot, escD_dat, escD_fresh, escD_slot, res_dat, res_fresh, res_slot, setR_dat, setR_fresh, setR_loc, setR_tup, setT_nm, setT_tup, setTs_nil, setTs_cons, setRs_nil2, freeAt_eq, looseAt_eq, O.bind_ok, List.mapM_cons, List.mapM_nil, Option.bind_eq_bind, Option.bind_some, Option.pure_def, Option.map_some, List.getElem?_cons_succ, List.getElem?_cons_zero, List.length_cons, List.length_nil, Nat.reduceAdd, Nat.reduceSub, Nat.le_refl, and_self, List.replicate_succ, List.replicate_zero, List.append_nil, List.cons_append, List.nil_append, List.set_cons_succ, List.set_cons_zero, List.all_cons, List.all_nil, Bool.and_true, Bool.true_and, Bool.not_true, Bool.not_false, Nat.sub_self, List.append_assoc, RV.weak, r_turn, q_turn, q_turnT, q_turnF, q_wipe0, q_wipe1, q_back0, q_back1, q_lend0, q_unlend0, q_lend1, q_lend2, q_unlend1, q_unlend2, q_un, q_lends_o, q_lends_d, q_lends_l, cTurn, cTurn3, cTurn4, List.getD_cons_succ, List.getD_cons_zero, Option.map_none, q_tup0, q_lst0, q_tup1, q_lst1, q_tup2, q_lst2, q_tup3, q_lst3, q_tup4, q_lst4, q_tup5, q_lst5, q_tup6, q_lst6, q_tup7, q_lst7, q_tup8, q_lst8, q_tup9, q_lst9, q_tup10, q_lst10, q_tup11, q_lst11, q_tup12, q_lst12, le_lim0, lt_lim0, le_lim1, lt_lim1, le_lim2, lt_lim2, le_lim3, lt_lim3, le_lim4, lt_lim4, le_lim5, lt_lim5, le_lim6, lt_lim6, le_lim7, lt_lim7, le_lim8, lt_lim8, le_lim9, lt_lim9, le_lim10, lt_lim10, le_lim11, lt_lim11, le_lim12, lt_lim12, le_lim13, lt_lim13, le_lim14, lt_lim14, le_lim15, lt_lim15, le_lim16, lt_lim16, le_lim17, lt_lim17, le_lim18, lt_lim18, le_lim19, lt_lim19, le_lim20, lt_lim20, decide_true, decide_false, eq_self, r_while, cW1, cW2, q_wT, q_wF, q_wn, ne_I, q_maxT, intsOf_map, cCh1, cCh2, cCh3, r_chain, q_ch1, q_ch2T, q_ch2F, q_ch4, q_addBI, q_subBI, q_addIB, q_subIB, q_strB, q_isnB, cZip, cZip2, cZip3, cZip4, r_zip, q_zipT, cLoop, cTurnC, r_forC, r_forN, q_lpn, q_lpc, q_lpb, q_lpr, q_eqD, q_neD, q_at4, q_at5, q_at6, q_at7, q_at8, lt2, gt2, cut_to, cut_from, cut_bt, isi_nt, eqv_T, eqv_L, eqv_S, eqvA_n, eqvA_c, eqvA_nc, eqvA_cn, eqv_I, List.take_succ_cons, List.take_zero, List.drop_succ_cons, List.drop_zero, isN_n, isN_b, isN_i, isN_s, isN_l, isN_t, isi_tt, isi_ll, isi_ii, isi_ss, isi_ib, isi_bi, isi_bb, tru_s, cRev, cMth2, cMth, cPuti2, cPuti1, cPuti, cAug, r_rev, r_mth, r_puti, r_killx, Int.reduceAdd, Int.reduceSub, Int.reduceMul, Int.reducePow, Int.reduceNeg, Int.reduceToNat, Int.reduceLT, Int.reduceLE, Int.reduceGT, Int.reduceGE, Int.reduceEq, Int.reduceDiv, Int.reduceMod, Nat.reduceMul, Nat.reduceLT, Nat.reduceLeDiff, Nat.reduceEqDiff, Int.toNat_natCast, r_aug, q_rng, q_rev, q_mth, q_zipL, q_puti1, q_puti2, q_puti3, q_puti4, q_aug, q_aug2, q_aug3, q_enumS, killE_n, killE_c, kKill_d, kKill_o, kKill_l, kKill_n, kKill_c, q_addS, q_ltT, q_gtT, q_revL, q_revT, q_lenS, q_intI, q_intB, q_augI, q_augSub, q_augT, q_slT, q_slL, List.take_length, not_true_eq_false, not_false_eq_true, Bool.false_and, Bool.and_false, Bool.or_true, Bool.true_or, Bool.or_false, Bool.false_or, ite_true, ite_false, if_true, if_false, cond_true, cond_false, Bool.false_eq_true, upTo_len, q_repL, q_repT1, q_repT, Option.some.injEq, Bool.not_eq_true, Bool.decide_eq_true, q_range1, q_range2, $xs,*])
open Rng Kin Frc Prs Drw
abbrev Q := Nat × Nat
structure Fx (ds : Nat → Option Df) : Prop extends Fr ds where
  h85 : ds 85 = some Frc.f85
  h86 : ds 86 = some Frc.f86
  h87 : ds 87 = some Frc.f87
  h68 : ds 68 = some Frc.f68
  h88 : ds 88 = some Frc.f88
  h89 : ds 89 = some Frc.f89
/-- numbers of a fraction have so many figures at most -/
def Sm (n : Nat) (p : Q) : Prop := p.1 < 2 ^ n ∧ p.2 < 2 ^ n
theorem Sm.mono {n m : Nat} {p : Q} (h : Sm n p) (hm : n ≤ m) : Sm m p := ⟨Nat.lt_of_lt_of_le h.1 (Nat.pow_le_pow_right (by decide) hm), Nat.lt_of_lt_of_le h.2 (Nat.pow_le_pow_right (by decide) hm)⟩
theorem mul_lt2 {a b n : Nat} (ha : a < 2 ^ n) (hb : b < 2 ^ n) : a * b < 2 ^ (2 * n) := by
  rw [Nat.two_mul, Nat.pow_add]
  exact Nat.mul_lt_mul_of_lt_of_lt ha hb
theorem add_lt2 {a b n : Nat} (ha : a < 2 ^ n) (hb : b < 2 ^ n) : a + b < 2 ^ (n + 1) := by
  rw [Nat.pow_succ]; omega
theorem Sm.rat {a b n : Nat} (ha : a < 2 ^ n) (hb : b < 2 ^ n) : Sm n (Fra.rat a b) := ⟨Nat.lt_of_le_of_lt Fra.rat_le.1 ha, Nat.lt_of_le_of_lt Fra.rat_le.2 hb⟩
theorem Sm.add {n m : Nat} {p q : Q} (hp : Sm n p) (hq : Sm n q) (hm : 2 * n + 1 ≤ m) : Sm m (Fra.add p q) :=
  (Sm.rat (n := 2 * n + 1) (add_lt2 (mul_lt2 hp.1 hq.2) (mul_lt2 hq.1 hp.2)) (Nat.lt_of_lt_of_le (mul_lt2 hp.2 hq.2) (Nat.pow_le_pow_right (by decide) (by omega)))).mono hm
theorem Sm.mul {n m : Nat} {p q : Q} (hp : Sm n p) (hq : Sm n q) (hm : 2 * n ≤ m) : Sm m (Fra.mul p q) :=
  (Sm.rat (n := 2 * n) (mul_lt2 hp.1 hq.1) (mul_lt2 hp.2 hq.2)).mono hm
theorem Sm.sub {n m : Nat} {p q : Q} (hp : Sm n p) (hq : Sm n q) (hm : 2 * n ≤ m) : Sm m (Fra.sub p q) :=
  (Sm.rat (n := 2 * n) (Nat.lt_of_le_of_lt (Nat.sub_le _ _) (mul_lt2 hp.1 hq.2)) (mul_lt2 hp.2 hq.2)).mono hm
theorem Sm.les {n : Nat} {p q : Q} (hp : Sm n p) (hq : Sm n q) : Sm n (Fra.les p q) := by
  unfold Fra.les; split
  · exact hq
  · exact hp
theorem big_of {x n : Nat} (h : x < 2 ^ n) (hn : n ≤ 4000) : ((x : Int)).natAbs < BIG := Nat.lt_of_lt_of_le (show x < 2 ^ n from h) (big_le hn)
/-- so many turns are enough -/
abbrev Fu (fuel : Nat) : Prop := 2 ^ 2000 ≤ fuel
theorem Fu.lt {fuel x n : Nat} (h : Fu fuel) (hx : x < 2 ^ n) (hn : n ≤ 2000) : x < fuel := Nat.lt_of_lt_of_le hx (Nat.le_trans (Nat.pow_le_pow_right (by decide) hn) h)
theorem ratio_run {ds : Nat → Option Df} (F : Fx ds) {fuel k a b : Nat} {st : Sto} (hf : Fu fuel) (hb : 0 < b) (h2 : b < 2 ^ 2000) : callN ds fuel (k + 2) 85 [.dat (.int a), .dat (.int b)] st = .ok (.dat (fr (Fra.rat a b))) st := by
  have e1 := common_run F.h66 (fuel := fuel) (k := k) (a := a) (b := b) (st := st) (Nat.lt_of_lt_of_le h2 hf)
  have g0 := Nat.gcd_pos_of_pos_right a hb
  have g1 := Nat.gcd_le_right a hb
  have gb : (((Nat.gcd a b : Nat) : Int)).natAbs.log2 < 9000 := by
    show (Nat.gcd a b).log2 < 9000
    have : (Nat.gcd a b).log2 < 2000 := (Nat.log2_lt (by omega)).mpr (by omega)
    omega
  have d1 : binD .fdiv (.int a) (.int (Nat.gcd a b : Nat)) = some (.dat (.int (a / Nat.gcd a b : Nat))) := by
    rw [q_fdiv ⟨by omega, gb⟩, ← Int.natCast_ediv]
  have d2 : binD .fdiv (.int b) (.int (Nat.gcd a b : Nat)) = some (.dat (.int (b / Nat.gcd a b : Nat))) := by
    rw [q_fdiv ⟨by omega, gb⟩, ← Int.natCast_ediv]
  rw [callN_eq F.h85]
  push_cast [e1, d1, d2]
  rfl
theorem mulN {a b n : Nat} (ha : a < 2 ^ n) (hb : b < 2 ^ n) (hn : n ≤ 4000) : binD .mul (.int (a : Int)) (.int (b : Int)) = some (.dat (.int ((a * b : Nat) : Int))) := by
  rw [q_mul (mul_big (big_of ha hn) (big_of hb hn)), ← Int.natCast_mul]
theorem addN {a b : Nat} : binD .add (.int (a : Int)) (.int (b : Int)) = some (.dat (.int ((a + b : Nat) : Int))) := by
  rw [q_add, ← Int.natCast_add]
theorem subN {a b : Nat} (h : b ≤ a) : binD .sub (.int (a : Int)) (.int (b : Int)) = some (.dat (.int ((a - b : Nat) : Int))) := by
  rw [q_sub, Int.natCast_sub h]
theorem added_run {ds : Nat → Option Df} (F : Fx ds) {fuel k n : Nat} {st : Sto} {p q : Q} (hf : Fu fuel) (hp : Sm n p) (hq : Sm n q) (hn : n ≤ 900) (p0 : 0 < p.2) (q0 : 0 < q.2) : callN ds fuel (k + 3) 86 [.dat (fr p), .dat (fr q)] st = .ok (.dat (fr (Fra.add p q))) st := by
  obtain ⟨a, b⟩ := p
  obtain ⟨c, d⟩ := q
  have m1 := mulN (n := n) hp.1 hq.2 (by omega)
  have m2 := mulN (n := n) hq.1 hp.2 (by omega)
  have m3 := mulN (n := n) hp.2 hq.2 (by omega)
  have e := ratio_run F (k := k) (st := st) hf (a := a * d + c * b) (b := b * d) (Nat.mul_pos p0 q0) (Nat.lt_of_lt_of_le (mul_lt2 hp.2 hq.2) (Nat.pow_le_pow_right (by decide) (by omega)))
  show callN ds fuel (k + 2 + 1) 86 [.dat (.tuple [.int a, .int b]), .dat (.tuple [.int c, .int d])] st = _
  rw [callN_eq F.h86]
  simp only at m1 m2 m3
  rw [Int.natCast_add] at e
  generalize hr : fr (Fra.rat (a * d + c * b) (b * d)) = r at e
  push_cast [m1, m2, m3, e]
  rw [← hr]; rfl
theorem times_run {ds : Nat → Option Df} (F : Fx ds) {fuel k n : Nat} {st : Sto} {p q : Q} (hf : Fu fuel) (hp : Sm n p) (hq : Sm n q) (hn : n ≤ 900) (p0 : 0 < p.2) (q0 : 0 < q.2) : callN ds fuel (k + 3) 87 [.dat (fr p), .dat (fr q)] st = .ok (.dat (fr (Fra.mul p q))) st := by
  obtain ⟨a, b⟩ := p
  obtain ⟨c, d⟩ := q
  have m1 := mulN (n := n) hp.1 hq.1 (by omega)
  have m3 := mulN (n := n) hp.2 hq.2 (by omega)
  have e := ratio_run F (k := k) (st := st) hf (a := a * c) (b := b * d) (Nat.mul_pos p0 q0) (Nat.lt_of_lt_of_le (mul_lt2 hp.2 hq.2) (Nat.pow_le_pow_right (by decide) (by omega)))
  show callN ds fuel (k + 2 + 1) 87 [.dat (.tuple [.int a, .int b]), .dat (.tuple [.int c, .int d])] st = _
  rw [callN_eq F.h87]
  simp only at m1 m3
  generalize hr : fr (Fra.rat (a * c) (b * d)) = r at e
  push_cast [m1, m3, e]
  rw [← hr]; rfl
theorem lt_run {ds : Nat → Option Df} (F : Fx ds) {fuel k n : Nat} {st : Sto} {p q : Q} (hp : Sm n p) (hq : Sm n q) (hn : n ≤ 900) : callN ds fuel (k + 1) 68 [.dat (fr p), .dat (fr q)] st = .ok (.dat (.bool (Fra.lt p q))) st := by
  have e := less_run F.h68 (fuel := fuel) (k := k) (st := st) (a := p.1) (b := p.2) (c := q.1) (d := q.2) (xs := []) (ys := []) (big_of hp.1 (by omega)) (big_of hp.2 (by omega)) (big_of hq.1 (by omega)) (big_of hq.2 (by omega))
  have z : decide ((p.1 : Int) * (q.2 : Int) < (q.1 : Int) * (p.2 : Int)) = Fra.lt p q := by
    unfold Fra.lt
    rw [← Int.natCast_mul, ← Int.natCast_mul]
    exact decide_eq_decide.mpr (by omega)
  rw [z] at e
  exact e
theorem left_run {ds : Nat → Option Df} (F : Fx ds) {fuel k n : Nat} {st : Sto} {p q : Q} (hf : Fu fuel) (hp : Sm n p) (hq : Sm n q) (hn : n ≤ 900) (p0 : 0 < p.2) (q0 : 0 < q.2) : callN ds fuel (k + 3) 88 [.dat (fr p), .dat (fr q)] st = .ok (.dat (if Fra.lt p q then .none else fr (Fra.sub p q))) st := by
  have e0 := lt_run F (fuel := fuel) (k := k + 1) (st := st) hp hq hn
  obtain ⟨a, b⟩ := p
  obtain ⟨c, d⟩ := q
  have m1 := mulN (n := n) hp.1 hq.2 (by omega)
  have m2 := mulN (n := n) hq.1 hp.2 (by omega)
  have m3 := mulN (n := n) hp.2 hq.2 (by omega)
  have e := ratio_run F (k := k) (st := st) hf (a := a * d - c * b) (b := b * d) (Nat.mul_pos p0 q0) (Nat.lt_of_lt_of_le (mul_lt2 hp.2 hq.2) (Nat.pow_le_pow_right (by decide) (by omega)))
  show callN ds fuel (k + 2 + 1) 88 [.dat (.tuple [.int a, .int b]), .dat (.tuple [.int c, .int d])] st = _
  have e0 : callN ds fuel (k + 2) 68 [.dat (.tuple [.int a, .int b]), .dat (.tuple [.int c, .int d])] st = _ := e0
  rw [callN_eq F.h88]
  simp only at m1 m2 m3
  cases hl : Fra.lt (a, b) (c, d) with
  | true =>
    rw [hl] at e0
    push_cast [e0]
  | false =>
    rw [hl] at e0
    have hle : c * b ≤ a * d := by
      unfold Fra.lt at hl
      simpa using hl
    rw [Int.natCast_sub hle] at e
    generalize hr : fr (Fra.rat (a * d - c * b) (b * d)) = r at e
    push_cast [e0, m1, m2, m3, e]
    rw [← hr]; rfl
theorem lesser_run {ds : Nat → Option Df} (F : Fx ds) {fuel k n : Nat} {st : Sto} {p q : Q} (hp : Sm n p) (hq : Sm n q) (hn : n ≤ 900) : callN ds fuel (k + 2) 89 [.dat (fr p), .dat (fr q)] st = .ok (.dat (fr (Fra.les p q))) st := by
  have e0 := lt_run F (fuel := fuel) (k := k) (st := st) hq hp hn
  unfold Fra.les
  rw [callN_eq F.h89]
  cases hl : Fra.lt q p with
  | true =>
    rw [hl] at e0
    generalize fr p = P at *
    generalize hQ : fr q = R at *
    push_cast [e0]
    rw [← hQ]
  | false =>
    rw [hl] at e0
    generalize hP : fr p = P at *
    generalize fr q = R at *
    push_cast [e0]
    rw [← hP]
theorem fq_frac {p : Q} (h : Fra.Fq p) : fracB (fr p) = true := by
  show fracB (.tuple [.int p.1, .int p.2]) = true
  rw [fracB_nat, decide_eq_true h.d, decide_eq_true h.g]; rfl
end Frx
end
section
set_option Elab.async false
set_option linter.all false
set_option maxRecDepth 20000
open PySem L2 Pur
namespace Prx
local macro_rules | `(tactic| push_cast [$xs,*]) => `(tactic| simp (implicitDefEqProofs := false) (disch := (first | assumption | exact ⟨rfl, by decide⟩ | exact okI_of (by omega) | exact mulOk_64 (by omega) (by omega) | exact fdiv_64 (by omega) (by omega) | (simp only [lim_eq, List.length_append, List.length_map, List.length_cons, List.length_nil, List.length_reverse, List.length_take, List.length_drop, List.length_replicate, List.length_range, upTo_len, enumD_len, zipD_len]; omega) | omega | (simp only [shp_sh, sh_n, sh_b, sh_i, sh_s, sh_T, sh_L, sh_ints, List.all_cons, List.all_nil, List.all_append, Bool.and_self, Bool.and_true]; first | done | decide))) only [cTst, cNeg, cNt, cAnd, cOr, cBin2, cBin, cCmp2, cCmp, cIte, cTup, cLst, cSub2, cSub, cSl3, cSl2, cSl, cCall2, cCall, cBi, cIsi, cDict, cComp, cTs, cO, cSeq, cRange, cEnum, cDs3, cDs2, cDs, cKs3, cKs2, cKs, cRs, cPs2, cPs, cNext, cAsg, cPar, cSetRs, cPut4, cPut3, cPut2, cPut, cRet, cIf, cSeqS, cFor, cSetSlot, cApp2, cApp, cExt, cComp7, r_tst, r_neg, r_nt, r_and, r_or, r_bin, r_cmp, r_ite, r_tup, r_lst, r_sub, r_slice, r_call, r_bi, r_isi, r_dict, r_comp, r_Ts, r_yes, r_seq, r_range, r_enum, r_Ds, r_Ks, r_Rs, r_Ps, r_seqS, r_asg, r_par, r_put, r_expr, r_ret, r_ifs, r_for, r_setRs, r_setSlot, r_app, r_ext, r_kcomp, q_var_d, q_var_o, q_var_l, q_var_n, q_tst, q_neg, q_andT, q_andF, q_orT, q_orF, q_bin, q_cmp, q_of, q_subL, q_look, q_subD, q_subF, q_subS, q_sub2, q_sl, q_call, q_up, q_bi, q_isi, q_iteT, q_iteF, q_tsT, q_tsF, q_seq, q_lendD, q_lendF, q_lendS, q_enumT, q_enumL, q_o, q_app, q_ext, q_esc_o, q_escD_o, q_res_o, q_res_l, q_res_d, q_nx, q_rt, q_bk, q_ct, q_ifT, q_ifF, q_put, q_putS, q_putOk, q_P_f, q_P_d, q_P_l, q_P_s, q_set, q_setT, q_setS, q_setTs, q_fr_d, q_fr_o, q_fr_n, q_fr_l, q_lo_d, q_lo_n, q_lo_l, q_tru_b, q_tru_i, q_tru_t, q_tru_l, q_tru_n, q_add, q_sub, q_mul, q_fdiv, q_mod, q_pow, q_addL, q_addT, q_lt, q_le, q_gt, q_ge, q_eqS, q_neS, q_eqI, q_isN, q_isnN, q_isB, q_tsub, q_lsub, q_lenL, q_lenT, q_tupL, q_tupT, q_lstL, q_lstT, q_repr, q_max, q_min, q_kI, q_kS, q_sqL, q_sqT, q_evD, q_evL, q_argN, q_argC, q_arg, q_argD, q_at0, q_at1, q_at2, q_at3, q_run, q_finD, q_finF, q_finN, q_finS, q_finO, q_finL, evTs_nil, evO_no, evDs_nil, evKs_nil, evRs_nil, evPs_nil, exs_nil, ex_retN, ex_pass, ex_brk, ex_cont, ev_var, ev_lit, ev_glob, ev_app, ev_ext, esc_dat, esc_fresh, esc_loc, esc_slot, escD_dat, escD_fresh, escD_slot, res_dat, res_fresh, res_slot, setR_dat, setR_fresh, setR_loc, setR_tup, setT_nm, setT_tup, setTs_nil, setTs_cons, setRs_nil2, freeAt_eq, looseAt_eq, O.bind_ok, List.mapM_cons, List.mapM_nil, Option.bind_eq_bind, Option.bind_some, Option.pure_def, Option.map_some, List.getElem?_cons_succ, List.getElem?_cons_zero, List.length_cons, List.length_nil, Nat.reduceAdd, Nat.reduceSub, Nat.le_refl, and_self, List.replicate_succ, List.replicate_zero, List.append_nil, List.cons_append, List.nil_append, List.set_cons_succ, List.set_cons_zero, List.all_cons, List.all_nil, Bool.and_true, Bool.true_and, Bool.not_true, Bool.not_false, Nat.sub_self, List.append_assoc, RV.weak, r_turn, q_turn, q_turnT, q_turnF, q_wipe0, q_wipe1, q_back0, q_back1, q_lend0, q_unlend0, q_lend1, q_lend2, q_unlend1, q_unlend2, q_un, q_lends_o, q_lends_d, q_lends_l, cTurn, cTurn3, cTurn4, List.getD_cons_succ, List.getD_cons_zero, Option.map_none, q_tup0, q_lst0, q_tup1, q_lst1, q_tup2, q_lst2, q_tup3, q_lst3, q_tup4, q_lst4, q_tup5, q_lst5, q_tup6, q_lst6, q_tup7, q_lst7, q_tup8, q_lst8, q_tup9, q_lst9, q_tup10, q_lst10, q_tup11, q_lst11, q_tup12, q_lst12, le_lim0, lt_lim0, le_lim1, lt_lim1, le_lim2, lt_lim2, le_lim3, lt_lim3, le_lim4, lt_lim4, le_lim5, lt_lim5, le_lim6, lt_lim6, le_lim7, lt_lim7, le_lim8, lt_lim8, le_lim9, lt_lim9, le_lim10, lt_lim10, le_lim11, lt_lim11, le_lim12, lt_lim12, le_lim13, lt_lim13, le_lim14, lt_lim14, le_lim15, lt_lim15, le_lim16, lt_lim16, le_lim17, lt_lim17, le_lim18, lt_lim18, le_lim19, lt_lim19, le_lim20, lt_lim20, decide_true, decide_false, eq_self, r_while, cW1, cW2, q_wT, q_wF, q_wn, ne_I, q_maxT, intsOf_map, cCh1, cCh2, cCh3, r_chain, q_ch1, q_ch2T, q_ch2F, q_ch4, q_addBI, q_subBI, q_addIB, q_subIB, q_strB, q_isnB, cZip, cZip2, cZip3, cZip4, r_zip, q_zipT, cLoop, cTurnC, r_forC, r_forN, q_lpn, q_lpc, q_lpb, q_lpr, q_eqD, q_neD, q_at4, q_at5, q_at6, q_at7, q_at8, lt2, gt2, cut_to, cut_from, cut_bt, isi_nt, eqv_T, eqv_L, eqv_S, eqvA_n, eqvA_c, eqvA_nc, eqvA_cn, eqv_I, List.take_succ_cons, List.take_zero, List.drop_succ_cons, List.drop_zero, isN_n, isN_b, isN_i, isN_s, isN_l, isN_t, isi_tt, isi_ll, isi_ii, isi_ss, isi_ib, isi_bi, isi_bb, tru_s, cRev, cMth2, cMth, cPuti2, cPuti1, cPuti, cAug, r_rev, r_mth, r_puti, r_killx, Int.reduceAdd, Int.reduceSub, Int.reduceMul, Int.reducePow, Int.reduceNeg, Int.reduceToNat, Int.reduceLT, Int.reduceLE, Int.reduceGT, Int.reduceGE, Int.reduceEq, Int.reduceDiv, Int.reduceMod, Nat.reduceMul, Nat.reduceLT, Nat.reduceLeDiff, Nat.reduceEqDiff, Int.toNat_natCast, r_aug, q_rng, q_rev, q_mth, q_zipL, q_puti1, q_puti2, q_puti3, q_puti4, q_aug, q_aug2, q_aug3, q_enumS, killE_n, killE_c, kKill_d, kKill_o, kKill_l, kKill_n, kKill_c, q_addS, q_ltT, q_gtT, q_revL, q_revT, q_lenS, q_intI, q_intB, q_augI, q_augSub, q_augT, q_slT, q_slL, List.take_length, not_true_eq_false, not_false_eq_true, Bool.false_and, Bool.and_false, Bool.or_true, Bool.true_or, Bool.or_false, Bool.false_or, ite_true, ite_false, if_true, if_false, cond_true, cond_false, Bool.false_eq_true, upTo_len, q_repL, q_repT1, q_repT, Option.some.injEq, Bool.not_eq_true, Bool.decide_eq_true, q_range1, q_range2, $xs,*])
open Rng Kin Frc Prs Drw Frx
structure Px (ds : Nat → Option Df) : Prop extends Fx ds where
  h69 : ds 69 = some Prs.f69
  h90 : ds 90 = some Prs.f90
  h92 : ds 92 = some Prs.f92
  h93 : ds 93 = some Prs.f93
abbrev one1 : Q := (1, 1)
theorem sm1 : Sm 900 one1 := ⟨Nat.one_lt_two_pow (by decide), Nat.one_lt_two_pow (by decide)⟩
theorem has_run {ds : Nat → Option Df} (F : Px ds) {fuel k : Nat} {st : Sto} {h : Q} {xs : List D} (hh : Sm 900 h) : callN ds fuel (k + 2) 90 [.dat (.tuple (fr h :: xs))] st = .ok (.dat (.bool (!Fra.lt h one1))) st := by
  have e0 := lt_run F.toFx (fuel := fuel) (k := k) (st := st) hh sm1 (by decide)
  have e0 : callN ds fuel (k + 1) 68 [.dat (fr h), .dat (.tuple [.int 1, .int 1])] st = _ := e0
  rw [callN_eq F.h90]
  generalize fr h = A at *
  push_cast [e0]
theorem filled_run {ds : Nat → Option Df} (F : Px ds) {fuel k t : Nat} {st : Sto} {h r m : Q} (hf : Fu fuel) (hh : Sm 200 h) (hr : Sm 60 r) (hm : Sm 900 m) (ht : t < 2 ^ 60) (h0 : 0 < h.2) (r0 : 0 < r.2) : callN ds fuel (k + 4) 92 [.dat (pu h r m), .dat (.int t)] st = .ok (.dat (pu (Fra.fil h r m t) r m)) st := by
  have st1 : Sm 60 ((t, 1) : Q) := ⟨ht, Nat.one_lt_two_pow (by decide)⟩
  have e1 := times_run F.toFx (k := k) (st := st) hf hr st1 (by decide) r0 Nat.one_pos
  have s2 : Sm 200 (Fra.mul r (t, 1)) := Sm.mul hr st1 (by decide)
  have p2 : 0 < (Fra.mul r (t, 1)).2 := (Fra.R.rat (Nat.mul_pos r0 Nat.one_pos)).q.d
  have e2 := added_run F.toFx (k := k) (st := st) hf hh s2 (by decide) h0 p2
  have s3 : Sm 900 (Fra.add h (Fra.mul r (t, 1))) := Sm.add hh s2 (by decide)
  have e3 := lesser_run F.toFx (fuel := fuel) (k := k + 1) (st := st) s3 hm (by decide)
  have e1 : callN ds fuel (k + 3) 87 [.dat (fr r), .dat (.tuple [.int t, .int 1])] st = _ := e1
  have e3 : callN ds fuel (k + 3) 89 _ st = _ := e3
  show callN ds fuel (k + 3 + 1) 92 [.dat (.tuple [fr h, fr r, fr m]), .dat (.int t)] st = .ok (.dat (.tuple [fr (Fra.les (Fra.add h (Fra.mul r (t, 1))) m), fr r, fr m])) st
  rw [callN_eq F.h92]
  generalize fr (Fra.les (Fra.add h (Fra.mul r (t, 1))) m) = Y at *
  generalize fr (Fra.add h (Fra.mul r (t, 1))) = X at *
  generalize fr (Fra.mul r (t, 1)) = Z at *
  generalize fr h = A at *
  generalize fr r = B at *
  generalize fr m = C at *
  push_cast [e1, e2, e3]
theorem ceil_nat {a d : Nat} (h : 0 < d) : (0 : Int) - (0 - (a : Int)) / (d : Int) = (((a + d - 1) / d : Nat) : Int) := by
  have q1 := Nat.div_mul_le_self (a + d - 1) d
  have q2 := Nat.lt_div_mul_add h (a := a + d - 1)
  generalize (a + d - 1) / d = q at *
  have hd : (d : Int) ≠ 0 := by omega
  have e1 := Int.mul_ediv_self_le (x := 0 - (a : Int)) (k := (d : Int)) hd
  have e2 := Int.lt_mul_ediv_self_add (x := 0 - (a : Int)) (k := (d : Int)) (by omega)
  generalize (0 - (a : Int)) / (d : Int) = e at *
  have c : ((q * d : Nat) : Int) = (d : Int) * (q : Int) := by rw [Int.natCast_mul, Int.mul_comm]
  have l1 : (d : Int) * (e + q) < (d : Int) * 1 := by rw [Int.mul_add]; omega
  have l2 : (d : Int) * (-1) < (d : Int) * (e + q) := by rw [Int.mul_add]; omega
  have k1 := Int.lt_of_mul_lt_mul_left l1 (by omega)
  have k2 := Int.lt_of_mul_lt_mul_left l2 (by omega)
  omega
/-- how many ticks it lacks -/
def till (h r : Q) : Nat := if Fra.lt h one1 then ((Fra.sub one1 h).1 * r.2 + (Fra.sub one1 h).2 * r.1 - 1) / ((Fra.sub one1 h).2 * r.1) else 0
theorem till_run {ds : Nat → Option Df} (F : Px ds) {fuel k : Nat} {st : Sto} {h r m : Q} (hf : Fu fuel) (hh : Sm 200 h) (hr : Sm 400 r) (h0 : 0 < h.2) (r0 : 0 < r.1) : callN ds fuel (k + 4) 93 [.dat (pu h r m)] st = .ok (.dat (.int (till h r))) st := by
  have e1 := has_run F (fuel := fuel) (k := k + 1) (st := st) (xs := [fr r, fr m]) (hh.mono (by decide))
  have e1 : callN ds fuel (k + 3) 90 _ st = _ := e1
  show callN ds fuel (k + 3 + 1) 93 [.dat (.tuple [fr h, fr r, fr m])] st = _
  rw [callN_eq F.h93]
  cases hl : Fra.lt h one1 with
  | false =>
    have et : till h r = 0 := by unfold till; rw [hl]; rfl
    rw [hl] at e1
    rw [et]
    generalize fr h = A at *
    generalize fr r = B at *
    generalize fr m = C at *
    push_cast [e1]
    rfl
  | true =>
    have hn : Fra.lt one1 h = false := by
      unfold Fra.lt at hl ⊢
      simp only [decide_eq_true_eq, decide_eq_false_iff_not] at hl ⊢
      omega
    have e2 := left_run F.toFx (k := k) (st := st) hf (sm1.mono (Nat.le_refl _)) (hh.mono (by decide)) (by decide) (by decide) h0
    rw [hn] at e2
    have e2 : callN ds fuel (k + 3) 88 [.dat (.tuple [.int 1, .int 1]), .dat (fr h)] st = .ok (.dat (fr (Fra.sub one1 h))) st := e2
    have et : till h r = ((Fra.sub one1 h).1 * r.2 + (Fra.sub one1 h).2 * r.1 - 1) / ((Fra.sub one1 h).2 * r.1) := by unfold till; rw [hl]; rfl
    rw [hl] at e1
    have ss : Sm 400 (Fra.sub one1 h) := Sm.sub (n := 200) ⟨Nat.one_lt_two_pow (by decide), Nat.one_lt_two_pow (by decide)⟩ hh (by decide)
    have sp : 0 < (Fra.sub one1 h).2 := (Fra.R.rat (Nat.mul_pos (by decide) h0)).q.d
    rw [et]
    generalize Fra.sub one1 h = l at *
    obtain ⟨a, b⟩ := l
    obtain ⟨c, d⟩ := r
    have m1 := mulN (n := 400) ss.1 hr.2 (by decide)
    have m2 := mulN (n := 400) ss.2 hr.1 (by decide)
    have hb : 0 < b * c := Nat.mul_pos sp r0
    have ce := ceil_nat (a := a * d) hb
    have lg : (((b * c : Nat) : Int)).natAbs.log2 < 9000 := by
      show (b * c).log2 < 9000
      have : (b * c).log2 < 800 := (Nat.log2_lt (by omega)).mpr (mul_lt2 (n := 400) ss.2 hr.1)
      omega
    have d1 : binD .fdiv (.int (0 - ((a * d : Nat) : Int))) (.int ((b * c : Nat) : Int)) = some (.dat (.int ((0 - ((a * d : Nat) : Int)) / ((b * c : Nat) : Int)))) := q_fdiv ⟨by omega, lg⟩
    simp only at m1 m2
    have e1 : callN ds fuel (k + 3) 90 [.dat (.tuple [fr h, .tuple [.int c, .int d], fr m])] st = _ := e1
    have e2 : callN ds fuel (k + 3) 88 [.dat (.tuple [.int 1, .int 1]), .dat (fr h)] st = .ok (.dat (.tuple [.int a, .int b])) st := e2
    show fin _ (exs _ _ ⟨[.dat (.tuple [fr h, .tuple [.int c, .int d], fr m]), .non, .non], st⟩) = _
    generalize fr h = A at *
    generalize fr m = C at *
    simp only
    push_cast [e1, e2, m1, m2, d1, ce]
theorem paid_fr {ds : Nat → Option Df} (F : Px ds) {fuel k : Nat} {st : Sto} {h : Q} (hf : Fu fuel) (hh : Sm 200 h) (h0 : 0 < h.2) (hl : Fra.lt h one1 = false) : callN ds fuel (k + 3) 88 [.dat (fr h), .dat (.tuple [.int 1, .int 1])] st = .ok (.dat (fr (Fra.sub h one1))) st := by
  have e2 := left_run F.toFx (k := k) (st := st) hf (hh.mono (by decide : 200 ≤ 900)) sm1 (by decide) h0 (by decide)
  rw [hl] at e2
  exact e2
end Prx
end
section
set_option Elab.async false
set_option linter.all false
set_option maxRecDepth 20000
open PySem L2 Pur
namespace K10t
local macro_rules | `(tactic| push_cast [$xs,*]) => `(tactic| simp (implicitDefEqProofs := false) (disch := (first | assumption | exact ⟨rfl, by decide⟩ | exact okI_of (by omega) | exact mulOk_64 (by omega) (by omega) | exact fdiv_64 (by omega) (by omega) | (simp only [lim_eq, List.length_append, List.length_map, List.length_cons, List.length_nil, List.length_reverse, List.length_take, List.length_drop, List.length_replicate, List.length_range, upTo_len, enumD_len, zipD_len]; omega) | omega | (simp only [shp_sh, sh_n, sh_b, sh_i, sh_s, sh_T, sh_L, sh_ints, List.all_cons, List.all_nil, List.all_append, Bool.and_self, Bool.and_true]; first | done | decide))) only [cTst, cNeg, cNt, cAnd, cOr, cBin2, cBin, cCmp2, cCmp, cIte, cTup, cLst, cSub2, cSub, cSl3, cSl2, cSl, cCall2, cCall, cBi, cIsi, cDict, cComp, cTs, cO, cSeq, cRange, cEnum, cDs3, cDs2, cDs, cKs3, cKs2, cKs, cRs, cPs2, cPs, cNext, cAsg, cPar, cSetRs, cPut4, cPut3, cPut2, cPut, cRet, cIf, cSeqS, cFor, cSetSlot, cApp2, cApp, cExt, cComp7, r_tst, r_neg, r_nt, r_and, r_or, r_bin, r_cmp, r_ite, r_tup, r_lst, r_sub, r_slice, r_call, r_bi, r_isi, r_dict, r_comp, r_Ts, r_yes, r_seq, r_range, r_enum, r_Ds, r_Ks, r_Rs, r_Ps, r_seqS, r_asg, r_par, r_put, r_expr, r_ret, r_ifs, r_for, r_setRs, r_setSlot, r_app, r_ext, r_kcomp, q_var_d, q_var_o, q_var_l, q_var_n, q_tst, q_neg, q_andT, q_andF, q_orT, q_orF, q_bin, q_cmp, q_of, q_subL, q_look, q_subD, q_subF, q_subS, q_sub2, q_sl, q_call, q_up, q_bi, q_isi, q_iteT, q_iteF, q_tsT, q_tsF, q_seq, q_lendD, q_lendF, q_lendS, q_enumT, q_enumL, q_o, q_app, q_ext, q_esc_o, q_escD_o, q_res_o, q_res_l, q_res_d, q_nx, q_rt, q_bk, q_ct, q_ifT, q_ifF, q_put, q_putS, q_putOk, q_P_f, q_P_d, q_P_l, q_P_s, q_set, q_setT, q_setS, q_setTs, q_fr_d, q_fr_o, q_fr_n, q_fr_l, q_lo_d, q_lo_n, q_lo_l, q_tru_b, q_tru_i, q_tru_t, q_tru_l, q_tru_n, q_add, q_sub, q_mul, q_fdiv, q_mod, q_pow, q_addL, q_addT, q_lt, q_le, q_gt, q_ge, q_eqS, q_neS, q_eqI, q_isN, q_isnN, q_isB, q_tsub, q_lsub, q_lenL, q_lenT, q_tupL, q_tupT, q_lstL, q_lstT, q_repr, q_max, q_min, q_kI, q_kS, q_sqL, q_sqT, q_evD, q_evL, q_argN, q_argC, q_arg, q_argD, q_at0, q_at1, q_at2, q_at3, q_run, q_finD, q_finF, q_finN, q_finS, q_finO, q_finL, evTs_nil, evO_no, evDs_nil, evKs_nil, evRs_nil, evPs_nil, exs_nil, ex_retN, ex_pass, ex_brk, ex_cont, ev_var, ev_lit, ev_glob, ev_app, ev_ext, esc_dat, esc_fresh, esc_loc, esc_slot, escD_dat, escD_fresh, escD_slot, res_dat, res_fresh, res_slot, setR_dat, setR_fresh, setR_loc, setR_tup, setT_nm, setT_tup, setTs_nil, setTs_cons, setRs_nil2, freeAt_eq, looseAt_eq, O.bind_ok, List.mapM_cons, List.mapM_nil, Option.bind_eq_bind, Option.bind_some, Option.pure_def, Option.map_some, List.getElem?_cons_succ, List.getElem?_cons_zero, List.length_cons, List.length_nil, Nat.reduceAdd, Nat.reduceSub, Nat.le_refl, and_self, List.replicate_succ, List.replicate_zero, List.append_nil, List.cons_append, List.nil_append, List.set_cons_succ, List.set_cons_zero, List.all_cons, List.all_nil, Bool.and_true, Bool.true_and, Bool.not_true, Bool.not_false, Nat.sub_self, List.append_assoc, RV.weak, r_turn, q_turn, q_turnT, q_turnF, q_wipe0, q_wipe1, q_back0, q_back1, q_lend0, q_unlend0, q_lend1, q_lend2, q_unlend1, q_unlend2, q_un, q_lends_o, q_lends_d, q_lends_l, cTurn, cTurn3, cTurn4, List.getD_cons_succ, List.getD_cons_zero, Option.map_none, q_tup0, q_lst0, q_tup1, q_lst1, q_tup2, q_lst2, q_tup3, q_lst3, q_tup4, q_lst4, q_tup5, q_lst5, q_tup6, q_lst6, q_tup7, q_lst7, q_tup8, q_lst8, q_tup9, q_lst9, q_tup10, q_lst10, q_tup11, q_lst11, q_tup12, q_lst12, le_lim0, lt_lim0, le_lim1, lt_lim1, le_lim2, lt_lim2, le_lim3, lt_lim3, le_lim4, lt_lim4, le_lim5, lt_lim5, le_lim6, lt_lim6, le_lim7, lt_lim7, le_lim8, lt_lim8, le_lim9, lt_lim9, le_lim10, lt_lim10, le_lim11, lt_lim11, le_lim12, lt_lim12, le_lim13, lt_lim13, le_lim14, lt_lim14, le_lim15, lt_lim15, le_lim16, lt_lim16, le_lim17, lt_lim17, le_lim18, lt_lim18, le_lim19, lt_lim19, le_lim20, lt_lim20, decide_true, decide_false, eq_self, r_while, cW1, cW2, q_wT, q_wF, q_wn, ne_I, q_maxT, intsOf_map, cCh1, cCh2, cCh3, r_chain, q_ch1, q_ch2T, q_ch2F, q_ch4, q_addBI, q_subBI, q_addIB, q_subIB, q_strB, q_isnB, cZip, cZip2, cZip3, cZip4, r_zip, q_zipT, cLoop, cTurnC, r_forC, r_forN, q_lpn, q_lpc, q_lpb, q_lpr, q_eqD, q_neD, q_at4, q_at5, q_at6, q_at7, q_at8, lt2, gt2, cut_to, cut_from, cut_bt, isi_nt, eqv_T, eqv_L, eqv_S, eqvA_n, eqvA_c, eqvA_nc, eqvA_cn, eqv_I, List.take_succ_cons, List.take_zero, List.drop_succ_cons, List.drop_zero, isN_n, isN_b, isN_i, isN_s, isN_l, isN_t, isi_tt, isi_ll, isi_ii, isi_ss, isi_ib, isi_bi, isi_bb, tru_s, cRev, cMth2, cMth, cPuti2, cPuti1, cPuti, cAug, r_rev, r_mth, r_puti, r_killx, Int.reduceAdd, Int.reduceSub, Int.reduceMul, Int.reducePow, Int.reduceNeg, Int.reduceToNat, Int.reduceLT, Int.reduceLE, Int.reduceGT, Int.reduceGE, Int.reduceEq, Int.reduceDiv, Int.reduceMod, Nat.reduceMul, Nat.reduceLT, Nat.reduceLeDiff, Nat.reduceEqDiff, Int.toNat_natCast, r_aug, q_rng, q_rev, q_mth, q_zipL, q_puti1, q_puti2, q_puti3, q_puti4, q_aug, q_aug2, q_aug3, q_enumS, killE_n, killE_c, kKill_d, kKill_o, kKill_l, kKill_n, kKill_c, q_addS, q_ltT, q_gtT, q_revL, q_revT, q_lenS, q_intI, q_intB, q_augI, q_augSub, q_augT, q_slT, q_slL, List.take_length, not_true_eq_false, not_false_eq_true, Bool.false_and, Bool.and_false, Bool.or_true, Bool.true_or, Bool.or_false, Bool.false_or, ite_true, ite_false, if_true, if_false, cond_true, cond_false, Bool.false_eq_true, upTo_len, q_repL, q_repT1, q_repT, Option.some.injEq, Bool.not_eq_true, Bool.decide_eq_true, q_range1, q_range2, $xs,*])
abbrev f91_0 : CSs := .cons (.ret (.bin .add (.tup (.cons (.call 88 (.cons (.sub (.var 0) (.lit (.int 0))) (.cons (.glob "WHOLE" (.tuple [(.int 1), (.int 1)])) .nil)) .nil [.inl 0, .inl 1]) .nil)) (.slice (.var 0) (.yes (.lit (.int 1))) .no))) .nil
abbrev f91_1 : CSs := .cons .never .nil
abbrev f91_2 : CSs := .cons (.ifs (.nt (.call 90 (.cons (.var 0) .nil) .nil [.inl 0])) f91_1 .nil) f91_0
abbrev f91 : Df := ⟨1, 1, f91_2⟩
abbrev f94_0 : CSs := .cons (.ret (.tup (.cons (.call 31 (.cons (.var 0) .nil) .nil [.inl 0]) (.cons (.lit (.int 0)) (.cons (.lit (.int 0)) (.cons (.tup .nil) (.cons (.call 31 (.cons (.var 0) .nil) .nil [.inl 0]) (.cons (.tup .nil) (.cons (.lit .none) (.cons (.lit (.bool false)) .nil)))))))))) .nil
abbrev f94 : Df := ⟨1, 1, f94_0⟩
abbrev f95_0 : CSs := .cons (.ret (.tup (.cons (.var 0) (.cons (.bi .tuple (.cons (.comp (.nm 4) [4] (.range (.cons (.var 2) .nil)) .nil (.call 94 (.cons (.var 3) .nil) .nil [.inl 0])) .nil)) (.cons (.tup .nil) (.cons (.tup .nil) (.cons (.tup .nil) (.cons (.tup .nil) (.cons (.tup .nil) (.cons (.var 1) (.cons (.lit (.int 0)) .nil))))))))))) .nil
abbrev f95 : Df := ⟨4, 5, f95_0⟩
abbrev f96_0 : CSs := .cons (.ret (.bin .add (.bin .add (.slice (.var 0) .no (.yes (.var 1))) (.tup (.cons (.var 2) .nil))) (.slice (.var 0) (.yes (.bin .add (.var 1) (.lit (.int 1)))) .no))) .nil
abbrev f96 : Df := ⟨3, 3, f96_0⟩
abbrev f97_0 : CSs := .cons (.ret (.call 96 (.cons (.var 0) (.cons (.glob "LANES_AT" (.int 1)) (.cons (.call 96 (.cons (.var 4) (.cons (.var 1) (.cons (.call 96 (.cons (.sub (.var 4) (.var 1)) (.cons (.var 2) (.cons (.var 3) .nil))) .nil [.inl 0, .inl 1, .inl 2]) .nil))) .nil [.inl 0, .inl 1, .inl 2]) .nil))) .nil [.inl 0, .inl 1, .inl 2])) .nil
abbrev f97_1 : CSs := .cons (.asg (.nm 4) (.sub (.var 0) (.glob "LANES_AT" (.int 1)))) f97_0
abbrev f97 : Df := ⟨4, 5, f97_1⟩
abbrev f98_0 : CSs := .cons (.ret (.and (.nt (.var 5)) (.and (.cmp .gt (.var 3) (.lit (.int 0))) (.or (.cmp .ge (.var 3) (.var 6)) (.cmp .ge (.bin .sub (.var 1) (.var 4)) (.var 7)))))) .nil
abbrev f98_1 : CSs := .cons (.asg (.tup (.cons (.nm 6) (.cons (.nm 7) .nil))) (.var 2)) f98_0
abbrev f98_2 : CSs := .cons (.asg (.tup (.cons (.nm 3) (.cons (.nm 4) (.cons (.nm 5) .nil)))) (.var 0)) f98_1
abbrev f98 : Df := ⟨3, 8, f98_2⟩
abbrev f99_0 : CSs := .cons (.ret (.tup (.cons (.call 97 (.cons (.var 0) (.cons (.var 1) (.cons (.glob "MASKED_AT" (.int 7)) (.cons (.lit (.bool true)) .nil)))) .nil [.inl 0, .inl 1, .inl 2, .inl 3]) (.cons (.tup (.cons (.tup (.cons (.lit (.str "raised")) (.cons (.sub (.var 0) (.glob "HALF_AT" (.int 0))) (.cons (.var 1) (.cons (.var 2) .nil))))) .nil)) .nil)))) .nil
abbrev f99_1 : CSs := .cons (.ret (.tup (.cons (.var 0) (.cons (.tup .nil) .nil)))) .nil
abbrev f99_2 : CSs := .cons (.ifs (.nt (.call 98 (.cons (.tup (.cons (.bi .len (.cons (.sub (.var 4) (.glob "BOX_AT" (.int 5))) .nil)) (.cons (.sub (.var 4) (.glob "SINCE_AT" (.int 6))) (.cons (.sub (.var 4) (.glob "MASKED_AT" (.int 7))) .nil)))) (.cons (.var 2) (.cons (.var 3) .nil))) .nil [.inl 0, .inl 1, .inl 2])) f99_1 .nil) f99_0
abbrev f99_3 : CSs := .cons (.asg (.nm 4) (.sub (.sub (.var 0) (.glob "LANES_AT" (.int 1))) (.var 1))) f99_2
abbrev f99 : Df := ⟨4, 5, f99_3⟩
abbrev f100_0 : CSs := .cons (.ret (.tup (.cons (.var 5) (.cons (.var 1) (.cons (.var 6) .nil))))) .nil
abbrev f100_1 : CSs := .cons (.kill [7, 8]) .nil
abbrev f100_2 : CSs := .cons (.asg (.nm 6) (.bin .add (.var 6) (.var 8))) f100_1
abbrev f100_3 : CSs := .cons (.asg (.tup (.cons (.nm 5) (.cons (.nm 8) .nil))) (.call 99 (.cons (.var 5) (.cons (.var 7) (.cons (.var 2) (.cons (.tup (.cons (.var 3) (.cons (.var 4) .nil))) .nil)))) .nil [.inl 0, .inl 1, .inl 2, .inl 3])) f100_2
abbrev f100_4 : CSs := .cons (.for (.nm 7) (.range (.cons (.bi .len (.cons (.sub (.var 0) (.glob "LANES_AT" (.int 1))) .nil)) .nil)) f100_3) f100_0
abbrev f100_5 : CSs := .cons (.par (.cons (.nm 5) (.cons (.nm 6) .nil)) (.cons (.call 96 (.cons (.var 0) (.cons (.glob "PURSE_AT" (.int 7)) (.cons (.call 92 (.cons (.sub (.var 0) (.glob "PURSE_AT" (.int 7))) .nil) .nil [.inl 0, .inr (.int 1)]) .nil))) .nil [.inl 0, .inl 1, .inl 2]) (.cons (.tup .nil) .nil))) f100_4
abbrev f100 : Df := ⟨5, 9, f100_5⟩
abbrev f101_0 : CSs := .cons (.ret (.bin .fdiv (.bin .mul (.var 0) (.sub (.var 1) (.lit (.int 0)))) (.sub (.var 1) (.lit (.int 1))))) .nil
abbrev f101 : Df := ⟨2, 2, f101_0⟩
abbrev f108_0 : CSs := .cons (.ret (.and (.nt (.call 68 (.cons (.var 0) (.cons (.call 89 (.cons (.var 0) (.cons (.var 1) .nil)) .nil [.inl 0, .inl 1]) .nil)) .nil [.inl 0, .inl 1])) (.nt (.call 68 (.cons (.var 1) (.cons (.call 89 (.cons (.var 0) (.cons (.var 1) .nil)) .nil [.inl 0, .inl 1]) .nil)) .nil [.inl 0, .inl 1])))) .nil
abbrev f108_1 : CSs := .cons (.ret (.lit (.bool false))) .nil
abbrev f108_2 : CSs := .cons (.ifs (.or (.cmp .ne (.cmp .is (.call 88 (.cons (.var 0) (.cons (.var 1) .nil)) .nil [.inl 0, .inl 1]) (.lit .none)) (.call 68 (.cons (.var 0) (.cons (.var 1) .nil)) .nil [.inl 0, .inl 1])) (.cmp .nin (.call 89 (.cons (.var 0) (.cons (.var 1) .nil)) .nil [.inl 0, .inl 1]) (.tup (.cons (.var 0) (.cons (.var 1) .nil))))) f108_1 .nil) f108_0
abbrev f108_3 : CSs := .cons (.ret (.lit (.bool false))) .nil
abbrev f108_4 : CSs := .cons (.ifs (.cmp .ne (.mth .count (.lst (.cons (.call 68 (.cons (.var 0) (.cons (.var 1) .nil)) .nil [.inl 0, .inl 1]) (.cons (.cmp .eq (.var 0) (.var 1)) (.cons (.call 68 (.cons (.var 1) (.cons (.var 0) .nil)) .nil [.inl 0, .inl 1]) .nil)))) (.cons (.lit (.bool true)) .nil)) (.lit (.int 1))) f108_3 .nil) f108_2
abbrev f108_5 : CSs := .cons (.ret (.lit (.bool false))) .nil
abbrev f108_6 : CSs := .cons (.ifs (.or (.cmp .ne (.call 88 (.cons (.var 2) (.cons (.var 1) .nil)) .nil [.inl 0, .inl 1]) (.var 0)) (.or (.cmp .ne (.call 88 (.cons (.var 2) (.cons (.var 0) .nil)) .nil [.inl 0, .inl 1]) (.var 1)) (.nt (.call 67 (.cons (.call 87 (.cons (.var 0) (.cons (.var 1) .nil)) .nil [.inl 0, .inl 1]) .nil) .nil [.inl 0])))) f108_5 .nil) f108_4
abbrev f108_7 : CSs := .cons (.ret (.lit (.bool false))) .nil
abbrev f108_8 : CSs := .cons (.ifs (.or (.cmp .ne (.var 2) (.call 86 (.cons (.var 1) (.cons (.var 0) .nil)) .nil [.inl 0, .inl 1])) (.or (.cmp .ne (.call 87 (.cons (.var 0) (.cons (.var 1) .nil)) .nil [.inl 0, .inl 1]) (.call 87 (.cons (.var 1) (.cons (.var 0) .nil)) .nil [.inl 0, .inl 1])) (.nt (.call 67 (.cons (.var 2) .nil) .nil [.inl 0])))) f108_7 .nil) f108_6
abbrev f108_9 : CSs := .cons (.asg (.nm 2) (.call 86 (.cons (.var 0) (.cons (.var 1) .nil)) .nil [.inl 0, .inl 1])) f108_8
abbrev f108 : Df := ⟨2, 3, f108_9⟩
abbrev f103_0 : CSs := .cons (.ret (.cmp .eq (.call 68 (.cons (.call 86 (.cons (.var 0) (.cons (.var 2) .nil)) .nil [.inl 0, .inl 1]) (.cons (.call 86 (.cons (.var 1) (.cons (.var 2) .nil)) .nil [.inl 0, .inl 1]) .nil)) .nil [.inl 0, .inl 1]) (.call 68 (.cons (.var 0) (.cons (.var 1) .nil)) .nil [.inl 0, .inl 1]))) .nil
abbrev f103_1 : CSs := .cons (.ret (.lit (.bool false))) .nil
abbrev f103_2 : CSs := .cons (.ifs (.cmp .ne (.call 87 (.cons (.call 87 (.cons (.var 0) (.cons (.var 1) .nil)) .nil [.inl 0, .inl 1]) (.cons (.var 2) .nil)) .nil [.inl 0, .inl 1]) (.call 87 (.cons (.var 0) (.cons (.call 87 (.cons (.var 1) (.cons (.var 2) .nil)) .nil [.inl 0, .inl 1]) .nil)) .nil [.inl 0, .inl 1])) f103_1 .nil) f103_0
abbrev f103_3 : CSs := .cons (.ret (.lit (.bool false))) .nil
abbrev f103_4 : CSs := .cons (.ifs (.cmp .ne (.call 87 (.cons (.var 0) (.cons (.call 86 (.cons (.var 1) (.cons (.var 2) .nil)) .nil [.inl 0, .inl 1]) .nil)) .nil [.inl 0, .inl 1]) (.call 86 (.cons (.call 87 (.cons (.var 0) (.cons (.var 1) .nil)) .nil [.inl 0, .inl 1]) (.cons (.call 87 (.cons (.var 0) (.cons (.var 2) .nil)) .nil [.inl 0, .inl 1]) .nil)) .nil [.inl 0, .inl 1])) f103_3 .nil) f103_2
abbrev f103_5 : CSs := .cons (.ret (.lit (.bool false))) .nil
abbrev f103_6 : CSs := .cons (.ifs (.cmp .ne (.call 86 (.cons (.call 86 (.cons (.var 0) (.cons (.var 1) .nil)) .nil [.inl 0, .inl 1]) (.cons (.var 2) .nil)) .nil [.inl 0, .inl 1]) (.call 86 (.cons (.var 0) (.cons (.call 86 (.cons (.var 1) (.cons (.var 2) .nil)) .nil [.inl 0, .inl 1]) .nil)) .nil [.inl 0, .inl 1])) f103_5 .nil) f103_4
abbrev f103 : Df := ⟨3, 3, f103_6⟩
abbrev f104_0 : CSs := .cons (.ret (.lit (.bool true))) .nil
abbrev f104_1 : CSs := .cons (.ret (.and (.cmp .eq (.call 91 (.cons (.call 92 (.cons (.var 0) .nil) .nil [.inl 0, .inr (.int 1)]) .nil) .nil [.inl 0]) (.call 92 (.cons (.call 91 (.cons (.var 0) .nil) .nil [.inl 0]) .nil) .nil [.inl 0, .inr (.int 1)])) (.cmp .eq (.call 86 (.cons (.sub (.call 91 (.cons (.var 0) .nil) .nil [.inl 0]) (.lit (.int 0))) (.cons (.tup (.cons (.lit (.int 1)) (.cons (.lit (.int 1)) .nil))) .nil)) .nil [.inl 0, .inl 1]) (.var 3)))) .nil
abbrev f104_2 : CSs := .cons (.ifs (.and (.call 90 (.cons (.var 0) .nil) .nil [.inl 0]) (.cmp .eq (.sub (.call 92 (.cons (.var 0) .nil) .nil [.inl 0, .inr (.int 1)]) (.lit (.int 0))) (.call 86 (.cons (.var 3) (.cons (.var 4) .nil)) .nil [.inl 0, .inl 1]))) f104_1 .nil) f104_0
abbrev f104_3 : CSs := .cons (.ret (.lit (.bool false))) .nil
abbrev f104_4 : CSs := .cons (.ifs (.and (.cmp .gt (.var 10) (.lit (.int 0))) (.call 90 (.cons (.call 92 (.cons (.var 0) .nil) (.cons (.bin .sub (.var 10) (.lit (.int 1))) .nil) [.inl 0, .inl 1]) .nil) .nil [.inl 0])) f104_3 .nil) f104_2
abbrev f104_5 : CSs := .cons (.ret (.lit (.bool false))) .nil
abbrev f104_6 : CSs := .cons (.ifs (.or (.nt (.call 90 (.cons (.call 92 (.cons (.var 0) .nil) (.cons (.var 10) .nil) [.inl 0, .inl 1]) .nil) .nil [.inl 0])) (.cmp .ne (.call 90 (.cons (.var 0) .nil) .nil [.inl 0]) (.cmp .eq (.var 10) (.lit (.int 0))))) f104_5 .nil) f104_4
abbrev f104_7 : CSs := .cons (.asg (.nm 10) (.call 93 (.cons (.var 0) .nil) .nil [.inl 0])) f104_6
abbrev f104_8 : CSs := .cons (.ret (.lit (.bool false))) .nil
abbrev f104_9 : CSs := .cons (.ifs (.or (.cmp .ne (.var 8) (.call 92 (.cons (.var 0) .nil) (.cons (.var 1) .nil) [.inl 0, .inl 1])) (.cmp .ne (.call 92 (.cons (.var 0) .nil) (.cons (.lit (.int 0)) .nil) [.inl 0, .inl 1]) (.var 0))) f104_8 .nil) f104_7
abbrev f104_10 : CSs := .cons (.kill [9]) .nil
abbrev f104_11 : CSs := .cons (.asg (.nm 8) (.call 92 (.cons (.var 8) .nil) .nil [.inl 0, .inr (.int 1)])) f104_10
abbrev f104_12 : CSs := .cons (.for (.nm 9) (.range (.cons (.var 1) .nil)) f104_11) f104_9
abbrev f104_13 : CSs := .cons (.kill [2, 5, 6, 7]) f104_12
abbrev f104_14 : CSs := .cons (.asg (.nm 8) (.var 0)) f104_13
abbrev f104_15 : CSs := .cons (.ret (.lit (.bool false))) .nil
abbrev f104_16 : CSs := .cons (.ifs (.cmp .ne (.var 6) (.tup (.cons (.call 89 (.cons (.call 86 (.cons (.var 3) (.cons (.call 87 (.cons (.var 4) (.cons (.call 85 (.cons (.bin .add (.var 1) (.var 2)) (.cons (.lit (.int 1)) .nil)) .nil [.inl 0, .inl 1]) .nil)) .nil [.inl 0, .inl 1]) .nil)) .nil [.inl 0, .inl 1]) (.cons (.var 5) .nil)) .nil [.inl 0, .inl 1]) (.cons (.var 4) (.cons (.var 5) .nil))))) f104_15 .nil) f104_14
abbrev f104_17 : CSs := .cons (.ret (.lit (.bool false))) .nil
abbrev f104_18 : CSs := .cons (.ifs (.or (.cmp .ne (.var 6) (.var 7)) (.nt (.call 69 (.cons (.var 6) .nil) .nil [.inl 0]))) f104_17 .nil) f104_16
abbrev f104_19 : CSs := .cons (.asg (.nm 7) (.call 92 (.cons (.call 92 (.cons (.var 0) .nil) (.cons (.var 1) .nil) [.inl 0, .inl 1]) .nil) (.cons (.var 2) .nil) [.inl 0, .inl 1])) f104_18
abbrev f104_20 : CSs := .cons (.asg (.nm 6) (.call 92 (.cons (.var 0) .nil) (.cons (.bin .add (.var 1) (.var 2)) .nil) [.inl 0, .inl 1])) f104_19
abbrev f104_21 : CSs := .cons (.asg (.tup (.cons (.nm 3) (.cons (.nm 4) (.cons (.nm 5) .nil)))) (.var 0)) f104_20
abbrev f104 : Df := ⟨3, 11, f104_21⟩
abbrev f105_0 : CSs := .cons (.ret (.cmp .eq (.var 2) (.call 95 (.cons (.tup (.cons (.lit (.int 0)) (.cons (.lit (.str "eth")) .nil))) .nil) (.cons (.call 92 (.cons (.var 0) .nil) (.cons (.var 1) .nil) [.inl 0, .inl 1]) .nil) [.inl 0, .inl 1, .inr (.int 2), .inr (.int 4)]))) .nil
abbrev f105_1 : CSs := .cons (.kill [4, 5]) .nil
abbrev f105_2 : CSs := .cons (.ret (.lit (.bool false))) .nil
abbrev f105_3 : CSs := .cons (.ifs (.or (.cmp .ne (.var 5) (.tup .nil)) (.cmp .ne (.var 3) (.call 21 (.cons (.lit (.int 8)) .nil) .nil [.inl 0]))) f105_2 .nil) f105_1
abbrev f105_4 : CSs := .cons (.asg (.tup (.cons (.nm 2) (.cons (.nm 3) (.cons (.nm 5) .nil)))) (.call 100 (.cons (.var 2) (.cons (.var 3) .nil)) (.cons (.bin .add (.var 4) (.lit (.int 1))) .nil) [.inl 0, .inl 1, .inl 2, .inr (.int 2), .inr (.int 4)])) f105_3
abbrev f105_5 : CSs := .cons (.ret (.lit (.bool false))) .nil
abbrev f105_6 : CSs := .cons (.ifs (.cmp .ne (.sub (.var 2) (.lit (.int 7))) (.call 92 (.cons (.var 0) .nil) (.cons (.var 4) .nil) [.inl 0, .inl 1])) f105_5 .nil) f105_4
abbrev f105_7 : CSs := .cons (.for (.nm 4) (.range (.cons (.var 1) .nil)) f105_6) f105_0
abbrev f105_8 : CSs := .cons (.par (.cons (.nm 2) (.cons (.nm 3) .nil)) (.cons (.call 95 (.cons (.tup (.cons (.lit (.int 0)) (.cons (.lit (.str "eth")) .nil))) .nil) (.cons (.var 0) .nil) [.inl 0, .inl 1, .inr (.int 2), .inr (.int 4)]) (.cons (.call 21 (.cons (.lit (.int 8)) .nil) .nil [.inl 0]) .nil))) f105_7
abbrev f105 : Df := ⟨2, 6, f105_8⟩
abbrev f106_0 : CSs := .cons (.ret (.call 68 (.cons (.call 87 (.cons (.var 1) (.cons (.call 85 (.cons (.var 3) (.cons (.lit (.int 1)) .nil)) .nil [.inl 0, .inl 1]) .nil)) .nil [.inl 0, .inl 1]) (.cons (.call 85 (.cons (.bin .add (.var 5) (.lit (.int 1))) (.cons (.lit (.int 1)) .nil)) .nil [.inl 0, .inl 1]) .nil)) .nil [.inl 0, .inl 1])) .nil
abbrev f106_1 : CSs := .cons (.ret (.lit (.bool false))) .nil
abbrev f106_2 : CSs := .cons (.ifs (.or (.call 68 (.cons (.call 87 (.cons (.var 1) (.cons (.call 85 (.cons (.var 3) (.cons (.lit (.int 1)) .nil)) .nil [.inl 0, .inl 1]) .nil)) .nil [.inl 0, .inl 1]) (.cons (.call 85 (.cons (.var 5) (.cons (.lit (.int 1)) .nil)) .nil [.inl 0, .inl 1]) .nil)) .nil [.inl 0, .inl 1]) (.cmp .ne (.call 101 (.cons (.var 3) .nil) .nil [.inl 0, .inr (.tuple [(.int 1), (.int 1)])]) (.var 3))) f106_1 .nil) f106_0
abbrev f106_3 : CSs := .cons (.ret (.lit (.bool false))) .nil
abbrev f106_4 : CSs := .cons (.ifs (.or (.cmp .lt (.call 101 (.cons (.bin .add (.var 3) (.var 4)) .nil) (.cons (.var 1) .nil) [.inl 0, .inl 1]) (.var 5)) (.cmp .lt (.call 101 (.cons (.var 3) .nil) (.cons (.call 86 (.cons (.var 1) (.cons (.var 2) .nil)) .nil [.inl 0, .inl 1]) .nil) [.inl 0, .inl 1]) (.var 5))) f106_3 .nil) f106_2
abbrev f106_5 : CSs := .cons (.asg (.nm 5) (.call 101 (.cons (.var 3) .nil) (.cons (.var 1) .nil) [.inl 0, .inl 1])) f106_4
abbrev f106_6 : CSs := .cons (.par (.cons (.nm 3) (.cons (.nm 4) .nil)) (.cons (.call 0 (.cons (.var 0) (.cons (.lit (.int 10001)) .nil)) .nil [.inl 0, .inl 1]) (.cons (.call 0 (.cons (.var 0) (.cons (.lit (.int 50)) .nil)) .nil [.inl 0, .inl 1]) .nil))) f106_5
abbrev f106 : Df := ⟨3, 6, f106_6⟩
abbrev f109_0 : CSs := .cons (.ret (.lit (.bool true))) .nil
abbrev f109_1 : CSs := .cons (.kill [7]) .nil
abbrev f109_2 : CSs := .cons (.ret (.lit (.bool false))) .nil
abbrev f109_3 : CSs := .cons (.ifs (.nt (.call 105 (.cons (.var 7) (.cons (.call 0 (.cons (.var 1) (.cons (.lit (.int 9)) .nil)) .nil [.inl 0, .inl 1]) .nil)) .nil [.inl 0, .inl 1])) f109_2 .nil) f109_1
abbrev f109_4 : CSs := .cons (.ret (.lit (.bool false))) .nil
abbrev f109_5 : CSs := .cons (.ifs (.nt (.call 104 (.cons (.var 7) (.cons (.call 0 (.cons (.var 1) (.cons (.lit (.int 20)) .nil)) .nil [.inl 0, .inl 1]) (.cons (.call 0 (.cons (.var 1) (.cons (.lit (.int 20)) .nil)) .nil [.inl 0, .inl 1]) .nil))) .nil [.inl 0, .inl 1, .inl 2])) f109_4 .nil) f109_3
abbrev f109_6 : CSs := .cons (.asg (.nm 7) (.call 71 (.cons (.var 1) .nil) .nil [.inl 0])) f109_5
abbrev f109_7 : CSs := .cons (.for (.nm 3) (.range (.cons (.lit (.int 6)) .nil)) f109_6) f109_0
abbrev f109_8 : CSs := .cons (.kill [0, 2, 4, 5, 6]) f109_7
abbrev f109_9 : CSs := .cons (.kill [4, 5, 6]) .nil
abbrev f109_10 : CSs := .cons (.ret (.lit (.bool false))) .nil
abbrev f109_11 : CSs := .cons (.ifs (.nt (.call 106 (.cons (.var 1) (.cons (.sub (.var 2) (.var 4)) (.cons (.sub (.var 2) (.bin .sub (.var 4) (.lit (.int 1)))) .nil))) .nil [.inl 0, .inl 1, .inl 2])) f109_10 .nil) f109_9
abbrev f109_12 : CSs := .cons (.kill [5, 6]) .nil
abbrev f109_13 : CSs := .cons (.ret (.lit (.bool false))) .nil
abbrev f109_14 : CSs := .cons (.ifs (.or (.nt (.call 108 (.cons (.sub (.var 2) (.var 4)) (.cons (.sub (.var 2) (.var 5)) .nil)) .nil [.inl 0, .inl 1])) (.nt (.call 103 (.cons (.sub (.var 2) (.var 4)) (.cons (.sub (.var 2) (.var 5)) (.cons (.var 6) .nil))) .nil [.inl 0, .inl 1, .inl 2]))) f109_13 .nil) f109_12
abbrev f109_15 : CSs := .cons (.asg (.nm 6) (.sub (.var 2) (.bin .mod (.bin .add (.bin .add (.var 4) (.var 5)) (.lit (.int 3))) (.lit (.int 8))))) f109_14
abbrev f109_16 : CSs := .cons (.for (.nm 5) (.range (.cons (.lit (.int 8)) .nil)) f109_15) f109_11
abbrev f109_17 : CSs := .cons (.kill [0]) f109_16
abbrev f109_18 : CSs := .cons (.for (.nm 4) (.range (.cons (.lit (.int 8)) .nil)) f109_17) f109_8
abbrev f109_19 : CSs := .cons (.kill [0]) f109_18
abbrev f109_20 : CSs := .cons (.expr (.app 2 (.call 85 (.cons (.call 0 (.cons (.var 1) (.cons (.bin .pow (.lit (.int 10)) (.lit (.int 6))) .nil)) .nil [.inl 0, .inl 1]) (.cons (.bin .add (.lit (.int 1)) (.call 0 (.cons (.var 1) (.cons (.bin .pow (.lit (.int 10)) (.lit (.int 6))) .nil)) .nil [.inl 0, .inl 1])) .nil)) .nil [.inl 0, .inl 1]))) f109_19
abbrev f109_21 : CSs := .cons (.expr (.ext 2 (.lst (.cons (.call 86 (.cons (.sub (.var 2) (.lit (.int 0))) (.cons (.sub (.var 2) (.lit (.int 1))) .nil)) .nil [.inl 0, .inl 1]) (.cons (.call 87 (.cons (.sub (.var 2) (.lit (.int 2))) (.cons (.sub (.var 2) (.lit (.int 3))) .nil)) .nil [.inl 0, .inl 1]) .nil))))) f109_20
abbrev f109_22 : CSs := .cons (.asg (.nm 2) (.comp (.nm 3) [3] (.range (.cons (.lit (.int 5)) .nil)) .nil (.call 70 (.cons (.var 1) .nil) .nil [.inl 0]))) f109_21
abbrev f109_23 : CSs := .cons (.asg (.nm 1) (.call 8 (.cons (.var 0) .nil) .nil [.inl 0])) f109_22
abbrev f109 : Df := ⟨1, 8, f109_23⟩
open Hlp Rng Kin Frc Prs Drw Frx Prx Pcs
open Fra (Fq)
theorem shp_fr {p : Q} : shp (fr p) = true := by
  show (PyData.canLay0 (.tuple [.int p.1, .int p.2]) && decide ((PyData.tuple [.int p.1, .int p.2]).depth ≤ 64)) = true
  simp [PyData.canLay0, PyData.canLayAll0, PyData.depth, PyData.depthAll]
theorem eqv_fr {p q : Q} : PyData.eqv (fr p) (fr q) = decide (p = q) := by
  obtain ⟨a, b⟩ := p
  obtain ⟨c, d⟩ := q
  have e : PyData.eqv (fr (a, b)) (fr (c, d)) = (((a : Int) == (c : Int)) && (((b : Int) == (d : Int)) && true)) := by simp only [PyData.eqv, PyData.eqvAll]
  rw [e]
  by_cases h1 : a = c
  · by_cases h2 : b = d
    · subst h1 h2; simp
    · have : ¬ (b : Int) = (d : Int) := by omega
      simp [h2, this]
  · have : ¬ (a : Int) = (c : Int) := by omega
    simp [h1, this]
theorem eq_fr {p q : Q} : cmpD .eq (fr p) (fr q) = some (decide (p = q)) := by
  show (if shp (fr p) && shp (fr q) then some (PyData.eqv (fr p) (fr q)) else none) = _
  rw [shp_fr, shp_fr, eqv_fr]; rfl
theorem ne_fr {p q : Q} : cmpD .ne (fr p) (fr q) = some (!decide (p = q)) := by
  show (if shp (fr p) && shp (fr q) then some (!PyData.eqv (fr p) (fr q)) else none) = _
  rw [shp_fr, shp_fr, eqv_fr]; rfl
theorem ne_same {p : Q} : cmpD .ne (fr p) (fr p) = some false := by rw [ne_fr]; simp
theorem ne_bb {b : Bool} : cmpD .ne (.bool b) (.bool b) = some false := by cases b <;> decide +kernel
theorem eq_bb {b : Bool} : cmpD .eq (.bool b) (.bool b) = some true := by cases b <;> decide +kernel
theorem nin_fr {p q r : Q} (h : p = q ∨ p = r) : cmpD .nin (fr p) (.tuple [fr q, fr r]) = some false := by
  show (if shp (fr p) && shp (.list [fr q, fr r]) then some ([fr q, fr r].any fun y => PyData.eqv y (fr p)) else none).map (fun b => !b) = _
  have s2 : shp (.list [fr q, fr r]) = true := by
    show (PyData.canLay0 (.list [fr q, fr r]) && decide ((PyData.list [fr q, fr r]).depth ≤ 64)) = true
    simp [PyData.canLay0, PyData.canLayAll0, PyData.depth, PyData.depthAll]
  rw [shp_fr, s2]
  simp only [Bool.and_self, if_true, List.any_cons, List.any_nil, eqv_fr, Option.map_some]
  rcases h with rfl | rfl <;> simp
theorem isn_fr {p : Q} : cmpD .is (fr p) .none = some false := rfl
theorem frac_of_fq {ds : Nat → Option Df} (F : Fx ds) {fuel k n : Nat} {st : Sto} {p : Q} (hf : Fu fuel) (h : Fq p) (hs : Sm n p) (hn : n ≤ 900) : callN ds fuel (k + 3) 67 [.dat (fr p)] st = .ok (.dat (.bool true)) st := by
  have t : Thg (2 ^ 900) 1 2000 (fr p) := by
    have i : ∀ x : Nat, x < 2 ^ n → Thg (2 ^ 900) 0 900 (.int x) := fun x hx => Thg.int (Nat.le_of_lt (Nat.lt_of_lt_of_le hx (Nat.pow_le_pow_right (by decide) hn))) (Nat.lt_of_lt_of_le hx (Nat.pow_le_pow_right (by decide) hn))
    exact (ThA.cons (i _ hs.1) (ThA.cons (i _ hs.2) ThA.nil)).tuple.mono (Nat.le_refl _) (by decide) (by decide)
  have e := fraction_run F.toFr (fuel := fuel) (k := k) (st := st) t (Nat.lt_of_lt_of_le (Nat.pow_lt_pow_right (by decide) (by decide)) hf) (by decide)
  rw [fq_frac h] at e
  exact e
theorem count_one {a b c : Bool} (h : [a, b, c].count true = 1) : mthD .count (.list [.bool a, .bool b, .bool c]) [.bool true] = some (.int 1) := by
  show (boolsD [.bool a, .bool b, .bool c]).map (fun bs => PyData.int (bs.count true : Nat)) = _
  simp only [boolsD, Option.map_some, h]
  rfl
theorem two_run {ds : Nat → Option Df} (F : Fx ds) (h108 : ds 108 = some f108) {fuel k : Nat} {st : Sto} {p q : Q} (hf : Fu fuel) (hp : Fq p) (hq : Fq q) (sp : Sm 20 p) (sq : Sm 20 q) : callN ds fuel (k + 5) 108 [.dat (fr p), .dat (fr q)] st = .ok (.dat (.bool true)) st := by
  have sa : Sm 41 (Fra.add p q) := sp.add sq (by decide)
  have sm' : Sm 40 (Fra.mul p q) := sp.mul sq (by decide)
  have fa := hp.add hq
  have fm := hp.mul hq
  have e1 := added_run F (k := k + 1) (st := st) hf sp sq (by decide) hp.d hq.d
  have e2 := added_run F (k := k + 1) (st := st) hf sq sp (by decide) hq.d hp.d
  rw [Fra.add_comm hq hp] at e2
  have e3 := times_run F (k := k + 1) (st := st) hf sp sq (by decide) hp.d hq.d
  have e4 := times_run F (k := k + 1) (st := st) hf sq sp (by decide) hq.d hp.d
  rw [Fra.mul_comm hq hp] at e4
  have e5 := frac_of_fq F (k := k + 1) (st := st) hf fa sa (by decide)
  have e6 := frac_of_fq F (k := k + 1) (st := st) hf fm sm' (by decide)
  have e7 := left_run F (k := k + 1) (st := st) hf sa (sq.mono (by decide : 20 ≤ 41)) (by decide) fa.d hq.d
  have e8 := left_run F (k := k + 1) (st := st) hf sa (sp.mono (by decide : 20 ≤ 41)) (by decide) fa.d hp.d
  obtain ⟨u1, u2⟩ := Fra.sub_add hp hq
  obtain ⟨u3, u4⟩ := Fra.sub_add hq hp
  rw [Fra.add_comm hq hp] at u3 u4
  rw [u1, u2] at e7
  rw [u3, u4] at e8
  have e7 : callN ds fuel (k + 4) 88 [.dat (fr (Fra.add p q)), .dat (fr q)] st = .ok (.dat (fr p)) st := e7
  have e8 : callN ds fuel (k + 4) 88 [.dat (fr (Fra.add p q)), .dat (fr p)] st = .ok (.dat (fr q)) st := e8
  have l1 := lt_run F (fuel := fuel) (k := k + 3) (st := st) sp sq (by decide)
  have l2 := lt_run F (fuel := fuel) (k := k + 3) (st := st) sq sp (by decide)
  have cq := eq_fr (p := p) (q := q)
  have ct := count_one (Fra.trich hp hq)
  have e9 := left_run F (k := k + 1) (st := st) hf sp sq (by decide) hp.d hq.d
  have e10 := lesser_run F (fuel := fuel) (k := k + 2) (st := st) sp sq (by decide)
  have ni := nin_fr (p := Fra.les p q) (q := p) (r := q) Fra.les_or
  have sl := sp.les sq
  have l3 := lt_run F (fuel := fuel) (k := k + 3) (st := st) sp sl (by decide)
  have l4 := lt_run F (fuel := fuel) (k := k + 3) (st := st) sq sl (by decide)
  rw [Fra.lt_les1] at l3
  rw [Fra.lt_les2] at l4
  have n1 := ne_same (p := Fra.add p q)
  have n2 := ne_same (p := Fra.mul p q)
  have n3 := ne_same (p := p)
  have n4 := ne_same (p := q)
  have i1 := isn_fr (p := Fra.sub p q)
  show callN ds fuel (k + 4 + 1) 108 _ st = _
  rw [callN_eq h108]
  generalize fr (Fra.add p q) = W at *
  generalize fr (Fra.mul p q) = M at *
  generalize fr (Fra.les p q) = L at *
  generalize fr (Fra.sub p q) = S at *
  generalize fr p = P at *
  generalize fr q = R at *
  generalize decide (p = q) = b3 at *
  generalize Fra.lt q p = b2 at *
  have nf : cmpD .ne (.bool false) (.bool false) = some false := ne_bb
  have nt : cmpD .ne (.bool true) (.bool true) = some false := ne_bb
  have n11 : cmpD .ne (.int 1) (.int 1) = some false := by decide +kernel
  cases hb : Fra.lt p q with
  | true =>
    rw [hb] at l1 ct e9
    have e9 : callN ds fuel (k + 4) 88 [.dat P, .dat R] st = .ok (.dat .none) st := e9
    push_cast [e1, n1, e2, e3, e4, n2, e5, e7, n3, e8, n4, e6, l1, cq, l2, ct, n11, e9, nt, e10, ni, l3, l4, show isD .none .none = some true from rfl]
  | false =>
    rw [hb] at l1 ct e9
    have e9 : callN ds fuel (k + 4) 88 [.dat P, .dat R] st = .ok (.dat S) st := e9
    push_cast [e1, n1, e2, e3, e4, n2, e5, e7, n3, e8, n4, e6, l1, cq, l2, ct, n11, e9, i1, nf, e10, ni, l3, l4]
theorem three_run {ds : Nat → Option Df} (F : Fx ds) (h103 : ds 103 = some f103) {fuel k : Nat} {st : Sto} {p q r : Q} (hf : Fu fuel) (hp : Fq p) (hq : Fq q) (hr : Fq r) (sp : Sm 20 p) (sq : Sm 20 q) (sr : Sm 20 r) : callN ds fuel (k + 4) 103 [.dat (fr p), .dat (fr q), .dat (fr r)] st = .ok (.dat (.bool true)) st := by
  have s1 : Sm 50 (Fra.add p q) := sp.add sq (by decide)
  have s2 : Sm 50 (Fra.add q r) := sq.add sr (by decide)
  have s3 : Sm 50 (Fra.mul p q) := sp.mul sq (by decide)
  have s4 : Sm 50 (Fra.mul p r) := sp.mul sr (by decide)
  have s5 : Sm 50 (Fra.mul q r) := sq.mul sr (by decide)
  have s6 : Sm 50 (Fra.add p r) := sp.add sr (by decide)
  have sp' : Sm 50 p := sp.mono (by decide)
  have sq' : Sm 50 q := sq.mono (by decide)
  have sr' : Sm 50 r := sr.mono (by decide)
  have e1 := added_run F (k := k) (st := st) hf sp sq (by decide) hp.d hq.d
  have e2 := added_run F (k := k) (st := st) hf s1 sr' (by decide) (hp.add hq).d hr.d
  have e3 := added_run F (k := k) (st := st) hf sq sr (by decide) hq.d hr.d
  have e4 := added_run F (k := k) (st := st) hf sp' s2 (by decide) hp.d (hq.add hr).d
  rw [← Fra.add_assoc hp hq hr] at e4
  have e5 := times_run F (k := k) (st := st) hf sp' s2 (by decide) hp.d (hq.add hr).d
  rw [Fra.mul_add hp hq hr] at e5
  have e6 := times_run F (k := k) (st := st) hf sp sq (by decide) hp.d hq.d
  have e7 := times_run F (k := k) (st := st) hf sp sr (by decide) hp.d hr.d
  have e8 := added_run F (k := k) (st := st) hf s3 s4 (by decide) (hp.mul hq).d (hp.mul hr).d
  have e9 := times_run F (k := k) (st := st) hf s3 sr' (by decide) (hp.mul hq).d hr.d
  have e10 := times_run F (k := k) (st := st) hf sq sr (by decide) hq.d hr.d
  have e11 := times_run F (k := k) (st := st) hf sp' s5 (by decide) hp.d (hq.mul hr).d
  rw [← Fra.mul_assoc hp hq hr] at e11
  have e12 := added_run F (k := k) (st := st) hf sp sr (by decide) hp.d hr.d
  have l1 := lt_run F (fuel := fuel) (k := k + 2) (st := st) s6 s2 (by decide)
  rw [Fra.lt_add hp hq hr] at l1
  have l2 := lt_run F (fuel := fuel) (k := k + 2) (st := st) sp sq (by decide)
  have n1 := ne_same (p := Fra.add (Fra.add p q) r)
  have n2 := ne_same (p := Fra.add (Fra.mul p q) (Fra.mul p r))
  have n3 := ne_same (p := Fra.mul (Fra.mul p q) r)
  have q1 := eq_bb (b := Fra.lt p q)
  show callN ds fuel (k + 3 + 1) 103 _ st = _
  rw [callN_eq h103]
  generalize fr (Fra.add (Fra.add p q) r) = A at *
  generalize fr (Fra.add (Fra.mul p q) (Fra.mul p r)) = B at *
  generalize fr (Fra.mul (Fra.mul p q) r) = C at *
  generalize fr (Fra.add p q) = D1 at *
  generalize fr (Fra.add q r) = D2 at *
  generalize fr (Fra.add p r) = D3 at *
  generalize fr (Fra.mul p q) = M1 at *
  generalize fr (Fra.mul p r) = M2 at *
  generalize fr (Fra.mul q r) = M3 at *
  generalize fr p = P at *
  generalize fr q = R at *
  generalize fr r = T at *
  generalize Fra.lt p q = b at *
  push_cast [e1, e2, e3, e4, n1, e5, e6, e7, e8, n2, e9, e10, e11, n3, e12, l1, l2, q1]
end K10t
end
section
set_option Elab.async false
set_option linter.all false
set_option maxRecDepth 20000
open PySem L2 Pur
namespace K10u
local macro_rules | `(tactic| push_cast [$xs,*]) => `(tactic| simp (implicitDefEqProofs := false) (disch := (first | assumption | exact ⟨rfl, by decide⟩ | exact okI_of (by omega) | exact mulOk_64 (by omega) (by omega) | exact fdiv_64 (by omega) (by omega) | (simp only [lim_eq, List.length_append, List.length_map, List.length_cons, List.length_nil, List.length_reverse, List.length_take, List.length_drop, List.length_replicate, List.length_range, upTo_len, enumD_len, zipD_len]; omega) | omega | (simp only [shp_sh, sh_n, sh_b, sh_i, sh_s, sh_T, sh_L, sh_ints, List.all_cons, List.all_nil, List.all_append, Bool.and_self, Bool.and_true]; first | done | decide))) only [cTst, cNeg, cNt, cAnd, cOr, cBin2, cBin, cCmp2, cCmp, cIte, cTup, cLst, cSub2, cSub, cSl3, cSl2, cSl, cCall2, cCall, cBi, cIsi, cDict, cComp, cTs, cO, cSeq, cRange, cEnum, cDs3, cDs2, cDs, cKs3, cKs2, cKs, cRs, cPs2, cPs, cNext, cAsg, cPar, cSetRs, cPut4, cPut3, cPut2, cPut, cRet, cIf, cSeqS, cFor, cSetSlot, cApp2, cApp, cExt, cComp7, r_tst, r_neg, r_nt, r_and, r_or, r_bin, r_cmp, r_ite, r_tup, r_lst, r_sub, r_slice, r_call, r_bi, r_isi, r_dict, r_comp, r_Ts, r_yes, r_seq, r_range, r_enum, r_Ds, r_Ks, r_Rs, r_Ps, r_seqS, r_asg, r_par, r_put, r_expr, r_ret, r_ifs, r_for, r_setRs, r_setSlot, r_app, r_ext, r_kcomp, q_var_d, q_var_o, q_var_l, q_var_n, q_tst, q_neg, q_andT, q_andF, q_orT, q_orF, q_bin, q_cmp, q_of, q_subL, q_look, q_subD, q_subF, q_subS, q_sub2, q_sl, q_call, q_up, q_bi, q_isi, q_iteT, q_iteF, q_tsT, q_tsF, q_seq, q_lendD, q_lendF, q_lendS, q_enumT, q_enumL, q_o, q_app, q_ext, q_esc_o, q_escD_o, q_res_o, q_res_l, q_res_d, q_nx, q_rt, q_bk, q_ct, q_ifT, q_ifF, q_put, q_putS, q_putOk, q_P_f, q_P_d, q_P_l, q_P_s, q_set, q_setT, q_setS, q_setTs, q_fr_d, q_fr_o, q_fr_n, q_fr_l, q_lo_d, q_lo_n, q_lo_l, q_tru_b, q_tru_i, q_tru_t, q_tru_l, q_tru_n, q_add, q_sub, q_mul, q_fdiv, q_mod, q_pow, q_addL, q_addT, q_lt, q_le, q_gt, q_ge, q_eqS, q_neS, q_eqI, q_isN, q_isnN, q_isB, q_tsub, q_lsub, q_lenL, q_lenT, q_tupL, q_tupT, q_lstL, q_lstT, q_repr, q_max, q_min, q_kI, q_kS, q_sqL, q_sqT, q_evD, q_evL, q_argN, q_argC, q_arg, q_argD, q_at0, q_at1, q_at2, q_at3, q_run, q_finD, q_finF, q_finN, q_finS, q_finO, q_finL, evTs_nil, evO_no, evDs_nil, evKs_nil, evRs_nil, evPs_nil, exs_nil, ex_retN, ex_pass, ex_brk, ex_cont, ev_var, ev_lit, ev_glob, ev_app, ev_ext, esc_dat, esc_fresh, esc_loc, esc_slot, escD_dat, escD_fresh, escD_slot, res_dat, res_fresh, res_slot, setR_dat, setR_fresh, setR_loc, setR_tup, setT_nm, setT_tup, setTs_nil, setTs_cons, setRs_nil2, freeAt_eq, looseAt_eq, O.bind_ok, List.mapM_cons, List.mapM_nil, Option.bind_eq_bind, Option.bind_some, Option.pure_def, Option.map_some, List.getElem?_cons_succ, List.getElem?_cons_zero, List.length_cons, List.length_nil, Nat.reduceAdd, Nat.reduceSub, Nat.le_refl, and_self, List.replicate_succ, List.replicate_zero, List.append_nil, List.cons_append, List.nil_append, List.set_cons_succ, List.set_cons_zero, List.all_cons, List.all_nil, Bool.and_true, Bool.true_and, Bool.not_true, Bool.not_false, Nat.sub_self, List.append_assoc, RV.weak, r_turn, q_turn, q_turnT, q_turnF, q_wipe0, q_wipe1, q_back0, q_back1, q_lend0, q_unlend0, q_lend1, q_lend2, q_unlend1, q_unlend2, q_un, q_lends_o, q_lends_d, q_lends_l, cTurn, cTurn3, cTurn4, List.getD_cons_succ, List.getD_cons_zero, Option.map_none, q_tup0, q_lst0, q_tup1, q_lst1, q_tup2, q_lst2, q_tup3, q_lst3, q_tup4, q_lst4, q_tup5, q_lst5, q_tup6, q_lst6, q_tup7, q_lst7, q_tup8, q_lst8, q_tup9, q_lst9, q_tup10, q_lst10, q_tup11, q_lst11, q_tup12, q_lst12, le_lim0, lt_lim0, le_lim1, lt_lim1, le_lim2, lt_lim2, le_lim3, lt_lim3, le_lim4, lt_lim4, le_lim5, lt_lim5, le_lim6, lt_lim6, le_lim7, lt_lim7, le_lim8, lt_lim8, le_lim9, lt_lim9, le_lim10, lt_lim10, le_lim11, lt_lim11, le_lim12, lt_lim12, le_lim13, lt_lim13, le_lim14, lt_lim14, le_lim15, lt_lim15, le_lim16, lt_lim16, le_lim17, lt_lim17, le_lim18, lt_lim18, le_lim19, lt_lim19, le_lim20, lt_lim20, decide_true, decide_false, eq_self, r_while, cW1, cW2, q_wT, q_wF, q_wn, ne_I, q_maxT, intsOf_map, cCh1, cCh2, cCh3, r_chain, q_ch1, q_ch2T, q_ch2F, q_ch4, q_addBI, q_subBI, q_addIB, q_subIB, q_strB, q_isnB, cZip, cZip2, cZip3, cZip4, r_zip, q_zipT, cLoop, cTurnC, r_forC, r_forN, q_lpn, q_lpc, q_lpb, q_lpr, q_eqD, q_neD, q_at4, q_at5, q_at6, q_at7, q_at8, lt2, gt2, cut_to, cut_from, cut_bt, isi_nt, eqv_T, eqv_L, eqv_S, eqvA_n, eqvA_c, eqvA_nc, eqvA_cn, eqv_I, List.take_succ_cons, List.take_zero, List.drop_succ_cons, List.drop_zero, isN_n, isN_b, isN_i, isN_s, isN_l, isN_t, isi_tt, isi_ll, isi_ii, isi_ss, isi_ib, isi_bi, isi_bb, tru_s, cRev, cMth2, cMth, cPuti2, cPuti1, cPuti, cAug, r_rev, r_mth, r_puti, r_killx, Int.reduceAdd, Int.reduceSub, Int.reduceMul, Int.reducePow, Int.reduceNeg, Int.reduceToNat, Int.reduceLT, Int.reduceLE, Int.reduceGT, Int.reduceGE, Int.reduceEq, Int.reduceDiv, Int.reduceMod, Nat.reduceMul, Nat.reduceLT, Nat.reduceLeDiff, Nat.reduceEqDiff, Int.toNat_natCast, r_aug, q_rng, q_rev, q_mth, q_zipL, q_puti1, q_puti2, q_puti3, q_puti4, q_aug, q_aug2, q_aug3, q_enumS, killE_n, killE_c, kKill_d, kKill_o, kKill_l, kKill_n, kKill_c, q_addS, q_ltT, q_gtT, q_revL, q_revT, q_lenS, q_intI, q_intB, q_augI, q_augSub, q_augT, q_slT, q_slL, List.take_length, not_true_eq_false, not_false_eq_true, Bool.false_and, Bool.and_false, Bool.or_true, Bool.true_or, Bool.or_false, Bool.false_or, ite_true, ite_false, if_true, if_false, cond_true, cond_false, Bool.false_eq_true, upTo_len, q_repL, q_repT1, q_repT, Option.some.injEq, Bool.not_eq_true, Bool.decide_eq_true, q_range1, q_range2, $xs,*])
open Hlp Rng Kin Frc Prs Drw Frx Prx Pcs K10t
open Fra (Fq)
/-! a purse, each sum of it -/
theorem shp_pu {a b c : Q} : shp (pu a b c) = true := by
  show (PyData.canLay0 (pu a b c) && decide ((pu a b c).depth ≤ 64)) = true
  simp [PyData.canLay0, PyData.canLayAll0, PyData.depth, PyData.depthAll]
theorem eqv_pu {a b c : Q} : PyData.eqv (pu a b c) (pu a b c) = true := by
  simp [PyData.eqv, PyData.eqvAll]
theorem ne_pu {a b c : Q} : cmpD .ne (pu a b c) (pu a b c) = some false := by
  show (if shp (pu a b c) && shp (pu a b c) then some (!PyData.eqv (pu a b c) (pu a b c)) else none) = _
  rw [shp_pu, eqv_pu]; rfl
theorem eq_pu {a b c : Q} : cmpD .eq (pu a b c) (pu a b c) = some true := by
  show (if shp (pu a b c) && shp (pu a b c) then some (PyData.eqv (pu a b c) (pu a b c)) else none) = _
  rw [shp_pu, eqv_pu]; rfl
/-- what is looked at of each purse that is drawn -/
def pcB (h r m : Q) : Bool :=
  !Fra.lt (Fra.fil h r m (till h r)) one1 && (decide ((!Fra.lt h one1) = decide (till h r = 0)) && ((decide (till h r = 0) || Fra.lt (Fra.fil h r m (till h r - 1)) one1) && (decide (till h r < 1000) &&
    (Fra.lt h one1 || (!decide (Fra.fil h r m 1 = Fra.add h r) || (!Fra.lt (Fra.fil h r m 1) one1 && (decide (Fra.sub (Fra.fil h r m 1) one1 = Fra.fil (Fra.sub h one1) r m 1) && decide (Fra.add (Fra.sub h one1) one1 = h))))))))
theorem pc_all : (MO.all fun m => RA.all fun r => (HA m).all fun h => pcB h r m) = true := by decide +kernel
/-- a drawn purse -/
structure Pd (h r m : Q) : Prop where
  p : Pu h r m
  c : pcB h r m = true
theorem pd_of {h r m : Q} (p : Pu h r m ∧ m ∈ MO ∧ r ∈ RA ∧ h ∈ HA m) : Pd h r m :=
  ⟨p.1, List.all_eq_true.mp (List.all_eq_true.mp (List.all_eq_true.mp pc_all m p.2.1) r p.2.2.1) h p.2.2.2⟩
section
variable {h r m : Q}
theorem Pd.fh (P : Pd h r m) : Fq h := ⟨P.p.h0.2.1, P.p.h0.2.2.2⟩
theorem Pd.fr' (P : Pd h r m) : Fq r := ⟨P.p.r0.2.2.1, P.p.r0.2.2.2.2⟩
theorem Pd.fm (P : Pd h r m) : Fq m := ⟨P.p.m0.2.1, P.p.m0.2.2.2⟩
theorem Pd.sh (P : Pd h r m) : Sm 20 h := by have := P.p.h0; constructor <;> omega
theorem Pd.sr (P : Pd h r m) : Sm 20 r := by have := P.p.r0; constructor <;> omega
theorem Pd.sm (P : Pd h r m) : Sm 20 m := by have := P.p.m0; constructor <;> omega
theorem Pd.sf (P : Pd h r m) {t : Nat} (ht : t < 2 ^ 20) : Sm 100 (Fra.fil h r m t) := by
  have s1 : Sm 40 (Fra.mul r (t, 1)) := Sm.mul P.sr ⟨ht, Nat.one_lt_two_pow (by decide)⟩ (by decide)
  exact (Sm.add (m := 100) (P.sh.mono (by decide)) s1 (by decide)).les (P.sm.mono (by decide))
theorem Pd.ff (P : Pd h r m) {t : Nat} : Fq (Fra.fil h r m t) := Fra.fil_fq P.fh P.fr' P.fm
theorem Pd.zero (P : Pd h r m) : Fra.fil h r m 0 = h := Fra.fil_zero P.fh P.fr' P.fm P.p.le
theorem fill0 {ds : Nat → Option Df} (F : Px ds) {fuel k t : Nat} {st : Sto} (hf : Fu fuel) (P : Pd h r m) (ht : t < 2 ^ 20) : callN ds fuel (k + 4) 92 [.dat (pu h r m), .dat (.int t)] st = .ok (.dat (pu (Fra.fil h r m t) r m)) st :=
  filled_run F hf (P.sh.mono (by decide)) (P.sr.mono (by decide)) (P.sm.mono (by decide)) (Nat.lt_of_lt_of_le ht (Nat.pow_le_pow_right (by decide) (by decide))) P.fh.d P.fr'.d
theorem fillN {ds : Nat → Option Df} (F : Px ds) {fuel k s t : Nat} {st : Sto} (hf : Fu fuel) (P : Pd h r m) (hs : s < 2 ^ 20) (ht : t < 2 ^ 20) : callN ds fuel (k + 4) 92 [.dat (pu (Fra.fil h r m s) r m), .dat (.int t)] st = .ok (.dat (pu (Fra.fil h r m (s + t)) r m)) st := by
  have e := filled_run F (k := k) (t := t) (st := st) hf ((P.sf hs).mono (by decide)) (P.sr.mono (by decide : 20 ≤ 60)) (P.sm.mono (by decide : 20 ≤ 900)) (Nat.lt_of_lt_of_le ht (Nat.pow_le_pow_right (by decide) (by decide))) (P.ff (t := s)).d P.fr'.d
  rw [Fra.fil_add P.fh P.fr' P.fm] at e
  exact e
theorem isp {ds : Nat → Option Df} (F : Px ds) {fuel k t : Nat} {st : Sto} (hf : Fu fuel) (P : Pd h r m) (ht : t < 2 ^ 20) : callN ds fuel (k + 4) 69 [.dat (pu (Fra.fil h r m t) r m)] st = .ok (.dat (.bool true)) st := by
  have i : ∀ x : Nat, x < 2 ^ 100 → Thg (2 ^ 100) 0 100 (.int x) := fun x hx => Thg.int (Nat.le_of_lt hx) hx
  have tf : ∀ p : Q, Sm 100 p → Thg (2 ^ 100) 1 300 (fr p) := fun p hp => (ThA.cons (i _ hp.1) (ThA.cons (i _ hp.2) ThA.nil)).tuple.mono (Nat.le_refl _) (by decide) (by decide)
  have tp : Thg (2 ^ 100) 2 1000 (pu (Fra.fil h r m t) r m) := (ThA.cons (tf _ (P.sf ht)) (ThA.cons (tf _ (P.sr.mono (by decide))) (ThA.cons (tf _ (P.sm.mono (by decide))) ThA.nil))).tuple.mono (Nat.le_refl _) (by decide) (by decide)
  have e := purse_run F.toFr F.h68 F.h69 (fuel := fuel) (k := k) (st := st) tp (Nat.lt_of_lt_of_le (Nat.pow_lt_pow_right (by decide) (by decide)) hf) (Nat.lt_of_lt_of_le (Nat.pow_lt_pow_right (by decide) (show 100 < 4000 by decide)) (Nat.le_refl _)) (by decide)
  have a : [fr (Fra.fil h r m t), fr r, fr m].all fracB = true := by
    simp only [List.all_cons, List.all_nil, fq_frac P.ff, fq_frac P.fr', fq_frac P.fm, Bool.and_true]
  have v := purseB_nat a
  rw [show purseB (pu (Fra.fil h r m t) r m) = _ from v, decide_eq_true P.p.r0.1, decide_eq_true P.p.le1, decide_eq_true (Fra.fil_le P.fh P.fr' P.fm)] at e
  exact e
/-- a purse filled tick by tick -/
theorem fill_loop {ds : Nat → Option Df} (F : Px ds) {fuel k f : Nat} {st : Sto} {e1 e3 e4 : EV} (hf : Fu fuel) (P : Pd h r m) (hl : f ≤ 1000) :
    forL (.nm 9) (exs ⟨callN ds fuel (k + 4), fuel⟩ f104_11) (upTo 0 f) ⟨[.dat (pu h r m), .dat (.int f), .non, .dat (fr h), .dat (fr r), .non, .non, .non, .dat (pu h r m), .non, .non], st⟩ = .ok .next ⟨[.dat (pu h r m), .dat (.int f), .non, .dat (fr h), .dat (fr r), .non, .non, .non, .dat (pu (Fra.fil h r m f) r m), .non, .non], st⟩ := by
  obtain ⟨s', le, es⟩ := forL_inv (t := .nm 9) (f := exs ⟨callN ds fuel (k + 4), fuel⟩ f104_11) (xs := upTo 0 f) (s := ⟨[.dat (pu h r m), .dat (.int f), .non, .dat (fr h), .dat (fr r), .non, .non, .non, .dat (pu h r m), .non, .non], st⟩)
    (fun i z => z = ⟨[.dat (pu h r m), .dat (.int f), .non, .dat (fr h), .dat (fr r), .non, .non, .non, .dat (pu (Fra.fil h r m i) r m), .non, .non], st⟩) (by rw [P.zero]) fun j x z hj es => by
      obtain ⟨hlt, rfl⟩ := upTo_get _ _ _ _ hj
      subst es
      have e := fillN F (k := k) (s := j) (t := 1) (st := st) hf P (by omega) (by decide)
      have e : callN ds fuel (k + 4) 92 [.dat (pu (Fra.fil h r m j) r m), .dat (.int 1)] st = _ := e
      refine ⟨_, .inl ?_, rfl⟩
      generalize pu (Fra.fil h r m (j + 1)) r m = B at *
      generalize pu (Fra.fil h r m j) r m = A at *
      generalize pu h r m = P0 at *
      generalize fr h = H at *
      generalize fr r = R at *
      push_cast [cTurnL, e]
  rw [upTo_len] at es
  rw [le, es]
end
end K10u
end
section
set_option Elab.async false
set_option linter.all false
set_option maxRecDepth 20000
open PySem L2 Pur
namespace K10v
local macro_rules | `(tactic| push_cast [$xs,*]) => `(tactic| simp (implicitDefEqProofs := false) (disch := (first | assumption | exact ⟨rfl, by decide⟩ | exact okI_of (by omega) | exact mulOk_64 (by omega) (by omega) | exact fdiv_64 (by omega) (by omega) | (simp only [lim_eq, List.length_append, List.length_map, List.length_cons, List.length_nil, List.length_reverse, List.length_take, List.length_drop, List.length_replicate, List.length_range, upTo_len, enumD_len, zipD_len]; omega) | omega | (simp only [shp_sh, sh_n, sh_b, sh_i, sh_s, sh_T, sh_L, sh_ints, List.all_cons, List.all_nil, List.all_append, Bool.and_self, Bool.and_true]; first | done | decide))) only [cTst, cNeg, cNt, cAnd, cOr, cBin2, cBin, cCmp2, cCmp, cIte, cTup, cLst, cSub2, cSub, cSl3, cSl2, cSl, cCall2, cCall, cBi, cIsi, cDict, cComp, cTs, cO, cSeq, cRange, cEnum, cDs3, cDs2, cDs, cKs3, cKs2, cKs, cRs, cPs2, cPs, cNext, cAsg, cPar, cSetRs, cPut4, cPut3, cPut2, cPut, cRet, cIf, cSeqS, cFor, cSetSlot, cApp2, cApp, cExt, cComp7, r_tst, r_neg, r_nt, r_and, r_or, r_bin, r_cmp, r_ite, r_tup, r_lst, r_sub, r_slice, r_call, r_bi, r_isi, r_dict, r_comp, r_Ts, r_yes, r_seq, r_range, r_enum, r_Ds, r_Ks, r_Rs, r_Ps, r_seqS, r_asg, r_par, r_put, r_expr, r_ret, r_ifs, r_for, r_setRs, r_setSlot, r_app, r_ext, r_kcomp, q_var_d, q_var_o, q_var_l, q_var_n, q_tst, q_neg, q_andT, q_andF, q_orT, q_orF, q_bin, q_cmp, q_of, q_subL, q_look, q_subD, q_subF, q_subS, q_sub2, q_sl, q_call, q_up, q_bi, q_isi, q_iteT, q_iteF, q_tsT, q_tsF, q_seq, q_lendD, q_lendF, q_lendS, q_enumT, q_enumL, q_o, q_app, q_ext, q_esc_o, q_escD_o, q_res_o, q_res_l, q_res_d, q_nx, q_rt, q_bk, q_ct, q_ifT, q_ifF, q_put, q_putS, q_putOk, q_P_f, q_P_d, q_P_l, q_P_s, q_set, q_setT, q_setS, q_setTs, q_fr_d, q_fr_o, q_fr_n, q_fr_l, q_lo_d, q_lo_n, q_lo_l, q_tru_b, q_tru_i, q_tru_t, q_tru_l, q_tru_n, q_add, q_sub, q_mul, q_fdiv, q_mod, q_pow, q_addL, q_addT, q_lt, q_le, q_gt, q_ge, q_eqS, q_neS, q_eqI, q_isN, q_isnN, q_isB, q_tsub, q_lsub, q_lenL, q_lenT, q_tupL, q_tupT, q_lstL, q_lstT, q_repr, q_max, q_min, q_kI, q_kS, q_sqL, q_sqT, q_evD, q_evL, q_argN, q_argC, q_arg, q_argD, q_at0, q_at1, q_at2, q_at3, q_run, q_finD, q_finF, q_finN, q_finS, q_finO, q_finL, evTs_nil, evO_no, evDs_nil, evKs_nil, evRs_nil, evPs_nil, exs_nil, ex_retN, ex_pass, ex_brk, ex_cont, ev_var, ev_lit, ev_glob, ev_app, ev_ext, esc_dat, esc_fresh, esc_loc, esc_slot, escD_dat, escD_fresh, escD_slot, res_dat, res_fresh, res_slot, setR_dat, setR_fresh, setR_loc, setR_tup, setT_nm, setT_tup, setTs_nil, setTs_cons, setRs_nil2, freeAt_eq, looseAt_eq, O.bind_ok, List.mapM_cons, List.mapM_nil, Option.bind_eq_bind, Option.bind_some, Option.pure_def, Option.map_some, List.getElem?_cons_succ, List.getElem?_cons_zero, List.length_cons, List.length_nil, Nat.reduceAdd, Nat.reduceSub, Nat.le_refl, and_self, List.replicate_succ, List.replicate_zero, List.append_nil, List.cons_append, List.nil_append, List.set_cons_succ, List.set_cons_zero, List.all_cons, List.all_nil, Bool.and_true, Bool.true_and, Bool.not_true, Bool.not_false, Nat.sub_self, List.append_assoc, RV.weak, r_turn, q_turn, q_turnT, q_turnF, q_wipe0, q_wipe1, q_back0, q_back1, q_lend0, q_unlend0, q_lend1, q_lend2, q_unlend1, q_unlend2, q_un, q_lends_o, q_lends_d, q_lends_l, cTurn, cTurn3, cTurn4, List.getD_cons_succ, List.getD_cons_zero, Option.map_none, q_tup0, q_lst0, q_tup1, q_lst1, q_tup2, q_lst2, q_tup3, q_lst3, q_tup4, q_lst4, q_tup5, q_lst5, q_tup6, q_lst6, q_tup7, q_lst7, q_tup8, q_lst8, q_tup9, q_lst9, q_tup10, q_lst10, q_tup11, q_lst11, q_tup12, q_lst12, le_lim0, lt_lim0, le_lim1, lt_lim1, le_lim2, lt_lim2, le_lim3, lt_lim3, le_lim4, lt_lim4, le_lim5, lt_lim5, le_lim6, lt_lim6, le_lim7, lt_lim7, le_lim8, lt_lim8, le_lim9, lt_lim9, le_lim10, lt_lim10, le_lim11, lt_lim11, le_lim12, lt_lim12, le_lim13, lt_lim13, le_lim14, lt_lim14, le_lim15, lt_lim15, le_lim16, lt_lim16, le_lim17, lt_lim17, le_lim18, lt_lim18, le_lim19, lt_lim19, le_lim20, lt_lim20, decide_true, decide_false, eq_self, r_while, cW1, cW2, q_wT, q_wF, q_wn, ne_I, q_maxT, intsOf_map, cCh1, cCh2, cCh3, r_chain, q_ch1, q_ch2T, q_ch2F, q_ch4, q_addBI, q_subBI, q_addIB, q_subIB, q_strB, q_isnB, cZip, cZip2, cZip3, cZip4, r_zip, q_zipT, cLoop, cTurnC, r_forC, r_forN, q_lpn, q_lpc, q_lpb, q_lpr, q_eqD, q_neD, q_at4, q_at5, q_at6, q_at7, q_at8, lt2, gt2, cut_to, cut_from, cut_bt, isi_nt, eqv_T, eqv_L, eqv_S, eqvA_n, eqvA_c, eqvA_nc, eqvA_cn, eqv_I, List.take_succ_cons, List.take_zero, List.drop_succ_cons, List.drop_zero, isN_n, isN_b, isN_i, isN_s, isN_l, isN_t, isi_tt, isi_ll, isi_ii, isi_ss, isi_ib, isi_bi, isi_bb, tru_s, cRev, cMth2, cMth, cPuti2, cPuti1, cPuti, cAug, r_rev, r_mth, r_puti, r_killx, Int.reduceAdd, Int.reduceSub, Int.reduceMul, Int.reducePow, Int.reduceNeg, Int.reduceToNat, Int.reduceLT, Int.reduceLE, Int.reduceGT, Int.reduceGE, Int.reduceEq, Int.reduceDiv, Int.reduceMod, Nat.reduceMul, Nat.reduceLT, Nat.reduceLeDiff, Nat.reduceEqDiff, Int.toNat_natCast, r_aug, q_rng, q_rev, q_mth, q_zipL, q_puti1, q_puti2, q_puti3, q_puti4, q_aug, q_aug2, q_aug3, q_enumS, killE_n, killE_c, kKill_d, kKill_o, kKill_l, kKill_n, kKill_c, q_addS, q_ltT, q_gtT, q_revL, q_revT, q_lenS, q_intI, q_intB, q_augI, q_augSub, q_augT, q_slT, q_slL, List.take_length, not_true_eq_false, not_false_eq_true, Bool.false_and, Bool.and_false, Bool.or_true, Bool.true_or, Bool.or_false, Bool.false_or, ite_true, ite_false, if_true, if_false, cond_true, cond_false, Bool.false_eq_true, upTo_len, q_repL, q_repT1, q_repT, Option.some.injEq, Bool.not_eq_true, Bool.decide_eq_true, q_range1, q_range2, $xs,*])
open Hlp Rng Kin Frc Prs Drw Frx Prx Pcs K10t K10u
open Fra (Fq)
section
variable {h r m : Q}
theorem pA {ds : Nat → Option Df} (F : Px ds) {fuel k f s : Nat} {st : Sto} (hf : Fu fuel) (P : Pd h r m) (hl : f ≤ 1000) (hs : s ≤ 1000) :
    exs ⟨callN ds fuel (k + 4), fuel⟩ f104_21 ⟨[.dat (pu h r m), .dat (.int f), .dat (.int s), .non, .non, .non, .non, .non, .non, .non, .non], st⟩ = exs ⟨callN ds fuel (k + 4), fuel⟩ f104_12 ⟨[.dat (pu h r m), .dat (.int f), .non, .dat (fr h), .dat (fr r), .non, .non, .non, .dat (pu h r m), .non, .non], st⟩ := by
  have e1 := fill0 F (k := k) (t := f + s) (st := st) hf P (by omega)
  rw [Int.natCast_add] at e1
  have e2 := fill0 F (k := k) (t := f) (st := st) hf P (by omega)
  have e3 := fillN F (k := k) (s := f) (t := s) (st := st) hf P (by omega) (by omega)
  have e4 := isp F (k := k) (t := f + s) (st := st) hf P (by omega)
  have n1 := ne_pu (a := Fra.fil h r m (f + s)) (b := r) (c := m)
  have e5 := ratio_run F.toFx (k := k + 2) (a := f + s) (b := 1) (st := st) hf Nat.one_pos (Nat.one_lt_two_pow (by decide))
  rw [Fra.rat_one, Int.natCast_add] at e5
  replace e5 : callN ds fuel (k + 4) 85 [.dat (.int ((f : Int) + (s : Int))), .dat (.int 1)] st = .ok (.dat (fr (f + s, 1))) st := e5
  have s1 : Sm 20 ((f + s, 1) : Q) := ⟨show f + s < _ by omega, Nat.one_lt_two_pow (by decide)⟩
  have e6 := times_run F.toFx (k := k + 1) (st := st) hf P.sr s1 (by decide) P.fr'.d Nat.one_pos
  have s2 : Sm 40 (Fra.mul r (f + s, 1)) := Sm.mul P.sr s1 (by decide)
  have e7 := added_run F.toFx (k := k + 1) (st := st) hf (P.sh.mono (by decide : 20 ≤ 40)) s2 (by decide) P.fh.d (P.fr'.mul Fra.fqn).d
  have s3 : Sm 100 (Fra.add h (Fra.mul r (f + s, 1))) := Sm.add (P.sh.mono (by decide : 20 ≤ 40)) s2 (by decide)
  have e8 := lesser_run F.toFx (fuel := fuel) (k := k + 2) (st := st) s3 (P.sm.mono (by decide : 20 ≤ 100)) (by decide)
  replace e8 : callN ds fuel (k + 4) 89 [.dat (fr (Fra.add h (Fra.mul r (f + s, 1)))), .dat (fr m)] st = .ok (.dat (fr (Fra.fil h r m (f + s)))) st := e8
  replace e1 : callN ds fuel (k + 4) 92 [.dat (.tuple [fr h, fr r, fr m]), .dat (.int ((f : Int) + (s : Int)))] st = .ok (.dat (.tuple [fr (Fra.fil h r m (f + s)), fr r, fr m])) st := e1
  replace e2 : callN ds fuel (k + 4) 92 [.dat (.tuple [fr h, fr r, fr m]), .dat (.int f)] st = .ok (.dat (.tuple [fr (Fra.fil h r m f), fr r, fr m])) st := e2
  replace e3 : callN ds fuel (k + 4) 92 [.dat (.tuple [fr (Fra.fil h r m f), fr r, fr m]), .dat (.int s)] st = .ok (.dat (.tuple [fr (Fra.fil h r m (f + s)), fr r, fr m])) st := e3
  replace e4 : callN ds fuel (k + 4) 69 [.dat (.tuple [fr (Fra.fil h r m (f + s)), fr r, fr m])] st = .ok (.dat (.bool true)) st := e4
  replace n1 : cmpD .ne (.tuple [fr (Fra.fil h r m (f + s)), fr r, fr m]) (.tuple [fr (Fra.fil h r m (f + s)), fr r, fr m]) = some false := n1
  show exs _ f104_21 ⟨[.dat (.tuple [fr h, fr r, fr m]), .dat (.int f), .dat (.int s), .non, .non, .non, .non, .non, .non, .non, .non], st⟩ = exs _ f104_12 ⟨[.dat (.tuple [fr h, fr r, fr m]), .dat (.int f), .non, .dat (fr h), .dat (fr r), .non, .non, .non, .dat (.tuple [fr h, fr r, fr m]), .non, .non], st⟩
  unfold f104_21 f104_20 f104_19 f104_18 f104_16 f104_14 f104_13
  generalize f104_12 = b
  generalize fr (Fra.fil h r m (f + s)) = W at *
  generalize fr (Fra.fil h r m f) = W2 at *
  generalize fr (Fra.add h (Fra.mul r (f + s, 1))) = A at *
  generalize fr (Fra.mul r (f + s, 1)) = M1 at *
  generalize fr (f + s, 1) = T at *
  generalize fr h = H at *
  generalize fr r = R at *
  generalize fr m = M at *
  push_cast [e1, e2, e3, n1, e4, e5, e6, e7, e8]
theorem pB {ds : Nat → Option Df} (F : Px ds) {fuel k f : Nat} {st : Sto} (hf : Fu fuel) (P : Pd h r m) (hl : f ≤ 1000) :
    exs ⟨callN ds fuel (k + 4), fuel⟩ f104_12 ⟨[.dat (pu h r m), .dat (.int f), .non, .dat (fr h), .dat (fr r), .non, .non, .non, .dat (pu h r m), .non, .non], st⟩ = exs ⟨callN ds fuel (k + 4), fuel⟩ f104_7 ⟨[.dat (pu h r m), .dat (.int f), .non, .dat (fr h), .dat (fr r), .non, .non, .non, .dat (pu (Fra.fil h r m f) r m), .non, .non], st⟩ := by
  have lp := fill_loop F (k := k) (f := f) (st := st) (e1 := .non) (e3 := .non) (e4 := .non) hf P hl
  have e2 := fill0 F (k := k) (t := f) (st := st) hf P (by omega)
  have e3 := fill0 F (k := k) (t := 0) (st := st) hf P (by omega)
  rw [P.zero] at e3
  replace e3 : callN ds fuel (k + 4) 92 [.dat (pu h r m), .dat (.int 0)] st = _ := e3
  have n1 := ne_pu (a := Fra.fil h r m f) (b := r) (c := m)
  have n2 := ne_pu (a := h) (b := r) (c := m)
  unfold f104_12 f104_9
  generalize f104_7 = b
  generalize pu (Fra.fil h r m f) r m = W at *
  generalize pu h r m = P0 at *
  generalize fr h = H at *
  generalize fr r = R at *
  push_cast [lp, e2, n1, e3, n2]
theorem pC {ds : Nat → Option Df} (F : Px ds) (h91 : ds 91 = some f91) {fuel k f : Nat} {st : Sto} {here : D} (hf : Fu fuel) (P : Pd h r m) :
    exs ⟨callN ds fuel (k + 4), fuel⟩ f104_7 ⟨[.dat (pu h r m), .dat (.int f), .non, .dat (fr h), .dat (fr r), .non, .non, .non, .dat here, .non, .non], st⟩ = .ok (.ret (.dat (.bool true))) ⟨[.dat (pu h r m), .dat (.int f), .non, .dat (fr h), .dat (fr r), .non, .non, .non, .dat here, .non, .dat (.int (till h r))], st⟩ := by
  have c := P.c
  unfold pcB at c
  simp only [Bool.and_eq_true, Bool.or_eq_true, Bool.not_eq_true', decide_eq_true_eq, decide_eq_false_iff_not] at c
  obtain ⟨c1, c2, c3, c4, c5⟩ := c
  have h200 : Sm 200 h := P.sh.mono (by decide)
  have e1 := till_run F (k := k) (m := m) (st := st) hf h200 (P.sr.mono (by decide)) P.fh.d P.p.r0.1
  have e2 := fill0 F (k := k) (t := till h r) (st := st) hf P (by omega)
  have sf := fun t (ht : t < 2 ^ 20) => (P.sf (t := t) ht).mono (show 100 ≤ 900 by decide)
  have e3 := has_run F (fuel := fuel) (k := k + 2) (st := st) (xs := [fr r, fr m]) (sf (till h r) (by omega))
  rw [c1] at e3
  replace e3 : callN ds fuel (k + 4) 90 [.dat (pu (Fra.fil h r m (till h r)) r m)] st = .ok (.dat (.bool true)) st := e3
  have e4 := has_run F (fuel := fuel) (k := k + 2) (st := st) (xs := [fr r, fr m]) (h200.mono (by decide : 200 ≤ 900))
  replace e4 : callN ds fuel (k + 4) 90 [.dat (pu h r m)] st = .ok (.dat (.bool (!Fra.lt h one1))) st := e4
  have e5 := fill0 F (k := k) (t := 1) (st := st) hf P (by decide)
  replace e5 : callN ds fuel (k + 4) 92 [.dat (pu h r m), .dat (.int 1)] st = .ok (.dat (pu (Fra.fil h r m 1) r m)) st := e5
  have e6 := added_run F.toFx (k := k + 1) (st := st) hf P.sh P.sr (by decide) P.fh.d P.fr'.d
  have q1 := eq_fr (p := Fra.fil h r m 1) (q := Fra.add h r)
  have nbb : ∀ b : Bool, cmpD .ne (.bool b) (.bool b) = some false := fun b => ne_bb
  -- behind the ticks
  have hz : cmpD .ne (.bool (!Fra.lt h one1)) (.bool (decide ((till h r : Int) = 0))) = some false := by
    have : decide ((till h r : Int) = 0) = (!Fra.lt h one1) := by
      rw [c2]; exact decide_eq_decide.mpr (by omega)
    rw [this]; exact nbb _
  have tail : exs ⟨callN ds fuel (k + 4), fuel⟩ f104_2 ⟨[.dat (pu h r m), .dat (.int f), .non, .dat (fr h), .dat (fr r), .non, .non, .non, .dat here, .non, .dat (.int (till h r))], st⟩ = .ok (.ret (.dat (.bool true))) ⟨[.dat (pu h r m), .dat (.int f), .non, .dat (fr h), .dat (fr r), .non, .non, .non, .dat here, .non, .dat (.int (till h r))], st⟩ := by
    generalize ht : (till h r : Int) = T at *
    cases hb : Fra.lt h one1 with
    | true =>
      rw [hb] at e4
      replace e4 : callN ds fuel (k + 4) 90 [.dat (pu h r m)] st = .ok (.dat (.bool false)) st := e4
      generalize pu h r m = P0 at *
      generalize fr h = H at *
      generalize fr r = R at *
      push_cast [e4]
    | false =>
      rw [hb] at e4 c5
      replace e4 : callN ds fuel (k + 4) 90 [.dat (pu h r m)] st = .ok (.dat (.bool true)) st := e4
      by_cases hc : Fra.fil h r m 1 = Fra.add h r
      · obtain ⟨d1, d2, d3⟩ : Fra.lt (Fra.fil h r m 1) one1 = false ∧ Fra.sub (Fra.fil h r m 1) one1 = Fra.fil (Fra.sub h one1) r m 1 ∧ Fra.add (Fra.sub h one1) one1 = h := by
          rcases c5 with c5 | c5 | c5
          · exact absurd c5 (by decide)
          · exact absurd hc c5
          · exact c5
        have ps : Sm 40 (Fra.sub h one1) := Sm.sub P.sh ⟨Nat.one_lt_two_pow (by decide), Nat.one_lt_two_pow (by decide)⟩ (by decide)
        have pf : 0 < (Fra.sub h one1).2 := (Fra.R.rat (Nat.mul_pos P.fh.d Nat.one_pos)).q.d
        -- paid(filled) at the level below
        have paid : ∀ (x : Q), Sm 200 x → 0 < x.2 → Fra.lt x one1 = false → callN ds fuel (k + 4) 91 [.dat (.tuple [fr x, fr r, fr m])] st = .ok (.dat (.tuple [fr (Fra.sub x one1), fr r, fr m])) st := by
          intro x hx x0 hxl
          have a1 := has_run F (fuel := fuel) (k := k + 1) (st := st) (xs := [fr r, fr m]) (hx.mono (by decide : 200 ≤ 900))
          rw [hxl] at a1
          replace a1 : callN ds fuel (k + 3) 90 [.dat (.tuple [fr x, fr r, fr m])] st = .ok (.dat (.bool true)) st := a1
          have a2 := paid_fr F (k := k) (st := st) hf hx x0 hxl
          show callN ds fuel (k + 3 + 1) 91 _ st = _
          rw [callN_eq h91]
          generalize fr (Fra.sub x one1) = X at *
          generalize fr x = Y at *
          generalize fr r = R at *
          generalize fr m = M at *
          push_cast [a1, a2]
        have g1 := paid (Fra.fil h r m 1) ((P.sf (by decide)).mono (by decide)) P.ff.d d1
        have g2 := paid h h200 P.fh.d hb
        have g3 := filled_run F (k := k) (t := 1) (st := st) hf (ps.mono (by decide : 40 ≤ 200)) (P.sr.mono (by decide : 20 ≤ 60)) (P.sm.mono (by decide : 20 ≤ 900)) (Nat.one_lt_two_pow (by decide)) pf P.fr'.d
        rw [d2] at g1
        replace g3 : callN ds fuel (k + 4) 92 [.dat (.tuple [fr (Fra.sub h one1), fr r, fr m]), .dat (.int 1)] st = .ok (.dat (.tuple [fr (Fra.fil (Fra.sub h one1) r m 1), fr r, fr m])) st := g3
        have g4 := added_run F.toFx (k := k + 1) (q := one1) (st := st) hf ps ⟨Nat.one_lt_two_pow (by decide), Nat.one_lt_two_pow (by decide)⟩ (by decide) pf Nat.one_pos
        rw [d3] at g4
        replace g4 : callN ds fuel (k + 4) 86 [.dat (fr (Fra.sub h one1)), .dat (.tuple [.int 1, .int 1])] st = .ok (.dat (fr h)) st := g4
        have q2 : cmpD .eq (.tuple [fr (Fra.fil (Fra.sub h one1) r m 1), fr r, fr m]) (.tuple [fr (Fra.fil (Fra.sub h one1) r m 1), fr r, fr m]) = some true := eq_pu
        have q3 := eq_fr (p := h) (q := h)
        rw [decide_eq_true rfl] at q3
        rw [decide_eq_true hc] at q1
        replace e4 : callN ds fuel (k + 4) 90 [.dat (.tuple [fr h, fr r, fr m])] st = .ok (.dat (.bool true)) st := e4
        replace e5 : callN ds fuel (k + 4) 92 [.dat (.tuple [fr h, fr r, fr m]), .dat (.int 1)] st = .ok (.dat (.tuple [fr (Fra.fil h r m 1), fr r, fr m])) st := e5
        show exs _ f104_2 ⟨[.dat (.tuple [fr h, fr r, fr m]), .dat (.int f), .non, .dat (fr h), .dat (fr r), .non, .non, .non, .dat here, .non, .dat (.int T)], st⟩ = .ok _ ⟨[.dat (.tuple [fr h, fr r, fr m]), .dat (.int f), .non, .dat (fr h), .dat (fr r), .non, .non, .non, .dat here, .non, .dat (.int T)], st⟩
        generalize fr (Fra.fil (Fra.sub h one1) r m 1) = X1 at *
        generalize fr (Fra.sub h one1) = X2 at *
        generalize fr (Fra.fil h r m 1) = X3 at *
        generalize fr (Fra.add h r) = X4 at *
        generalize fr h = H at *
        generalize fr r = R at *
        generalize fr m = M at *
        push_cast [e4, e5, e6, q1, g1, g2, g3, g4, q2, q3]
      · rw [decide_eq_false hc] at q1
        replace e4 : callN ds fuel (k + 4) 90 [.dat (.tuple [fr h, fr r, fr m])] st = .ok (.dat (.bool true)) st := e4
        replace e5 : callN ds fuel (k + 4) 92 [.dat (.tuple [fr h, fr r, fr m]), .dat (.int 1)] st = .ok (.dat (.tuple [fr (Fra.fil h r m 1), fr r, fr m])) st := e5
        show exs _ f104_2 ⟨[.dat (.tuple [fr h, fr r, fr m]), .dat (.int f), .non, .dat (fr h), .dat (fr r), .non, .non, .non, .dat here, .non, .dat (.int T)], st⟩ = .ok _ ⟨[.dat (.tuple [fr h, fr r, fr m]), .dat (.int f), .non, .dat (fr h), .dat (fr r), .non, .non, .non, .dat here, .non, .dat (.int T)], st⟩
        generalize fr (Fra.fil h r m 1) = X3 at *
        generalize fr (Fra.add h r) = X4 at *
        generalize fr h = H at *
        generalize fr r = R at *
        generalize fr m = M at *
        push_cast [e4, e5, e6, q1]
  by_cases tz : till h r = 0
  · have gt : ¬ (0 < (till h r : Int)) := by omega
    have step : exs ⟨callN ds fuel (k + 4), fuel⟩ f104_7 ⟨[.dat (pu h r m), .dat (.int f), .non, .dat (fr h), .dat (fr r), .non, .non, .non, .dat here, .non, .non], st⟩ = exs ⟨callN ds fuel (k + 4), fuel⟩ f104_2 ⟨[.dat (pu h r m), .dat (.int f), .non, .dat (fr h), .dat (fr r), .non, .non, .non, .dat here, .non, .dat (.int (till h r))], st⟩ := by
      unfold f104_7 f104_6 f104_4
      generalize f104_2 = b
      generalize pu (Fra.fil h r m (till h r)) r m = W at *
      generalize pu h r m = P0 at *
      generalize fr h = H at *
      generalize fr r = R at *
      generalize (till h r : Int) = T at *
      push_cast [e1, e2, e3, e4, hz, gt]
    rw [step, tail]
  · have gt : 0 < (till h r : Int) := by omega
    have c3' : Fra.lt (Fra.fil h r m (till h r - 1)) one1 = true := by
      rcases c3 with c3 | c3
      · exact absurd c3 tz
      · exact c3
    have e7 := fill0 F (k := k) (t := till h r - 1) (st := st) hf P (by omega)
    rw [Int.natCast_sub (by omega : 1 ≤ till h r)] at e7
    replace e7 : callN ds fuel (k + 4) 92 [.dat (pu h r m), .dat (.int ((till h r : Int) - 1))] st = _ := e7
    have e8 := has_run F (fuel := fuel) (k := k + 2) (st := st) (xs := [fr r, fr m]) (sf (till h r - 1) (by omega))
    rw [c3'] at e8
    replace e8 : callN ds fuel (k + 4) 90 [.dat (pu (Fra.fil h r m (till h r - 1)) r m)] st = .ok (.dat (.bool false)) st := e8
    have step : exs ⟨callN ds fuel (k + 4), fuel⟩ f104_7 ⟨[.dat (pu h r m), .dat (.int f), .non, .dat (fr h), .dat (fr r), .non, .non, .non, .dat here, .non, .non], st⟩ = exs ⟨callN ds fuel (k + 4), fuel⟩ f104_2 ⟨[.dat (pu h r m), .dat (.int f), .non, .dat (fr h), .dat (fr r), .non, .non, .non, .dat here, .non, .dat (.int (till h r))], st⟩ := by
      unfold f104_7 f104_6 f104_4
      generalize f104_2 = b
      generalize pu (Fra.fil h r m (till h r - 1)) r m = W1 at *
      generalize pu (Fra.fil h r m (till h r)) r m = W at *
      generalize pu h r m = P0 at *
      generalize fr h = H at *
      generalize fr r = R at *
      generalize (till h r : Int) = T at *
      push_cast [e1, e2, e3, e4, hz, gt, e7, e8]
    rw [step, tail]
theorem purse_right {ds : Nat → Option Df} (F : Px ds) (h91 : ds 91 = some f91) (h104 : ds 104 = some f104) {fuel k f s : Nat} {st : Sto} (hf : Fu fuel) (P : Pd h r m) (hl : f ≤ 1000) (hs : s ≤ 1000) : callN ds fuel (k + 5) 104 [.dat (pu h r m), .dat (.int f), .dat (.int s)] st = .ok (.dat (.bool true)) st := by
  have e := (pA F (k := k) (st := st) hf P hl hs).trans ((pB F (k := k) (st := st) hf P hl).trans (pC F h91 (k := k) (st := st) hf P))
  show callN ds fuel (k + 4 + 1) 104 _ st = _
  rw [callN_eq h104]
  generalize pu h r m = P0 at *
  push_cast [e, List.take_length]
end
end K10v
end
section
set_option Elab.async false
set_option linter.all false
set_option maxRecDepth 20000
open PySem L2 Pur
namespace K10w
local macro_rules | `(tactic| push_cast [$xs,*]) => `(tactic| simp (implicitDefEqProofs := false) (disch := (first | assumption | exact ⟨rfl, by decide⟩ | exact okI_of (by omega) | exact mulOk_64 (by omega) (by omega) | exact fdiv_64 (by omega) (by omega) | (simp only [lim_eq, List.length_append, List.length_map, List.length_cons, List.length_nil, List.length_reverse, List.length_take, List.length_drop, List.length_replicate, List.length_range, upTo_len, enumD_len, zipD_len]; omega) | omega | (simp only [shp_sh, sh_n, sh_b, sh_i, sh_s, sh_T, sh_L, sh_ints, List.all_cons, List.all_nil, List.all_append, Bool.and_self, Bool.and_true]; first | done | decide))) only [cTst, cNeg, cNt, cAnd, cOr, cBin2, cBin, cCmp2, cCmp, cIte, cTup, cLst, cSub2, cSub, cSl3, cSl2, cSl, cCall2, cCall, cBi, cIsi, cDict, cComp, cTs, cO, cSeq, cRange, cEnum, cDs3, cDs2, cDs, cKs3, cKs2, cKs, cRs, cPs2, cPs, cNext, cAsg, cPar, cSetRs, cPut4, cPut3, cPut2, cPut, cRet, cIf, cSeqS, cFor, cSetSlot, cApp2, cApp, cExt, cComp7, r_tst, r_neg, r_nt, r_and, r_or, r_bin, r_cmp, r_ite, r_tup, r_lst, r_sub, r_slice, r_call, r_bi, r_isi, r_dict, r_comp, r_Ts, r_yes, r_seq, r_range, r_enum, r_Ds, r_Ks, r_Rs, r_Ps, r_seqS, r_asg, r_par, r_put, r_expr, r_ret, r_ifs, r_for, r_setRs, r_setSlot, r_app, r_ext, r_kcomp, q_var_d, q_var_o, q_var_l, q_var_n, q_tst, q_neg, q_andT, q_andF, q_orT, q_orF, q_bin, q_cmp, q_of, q_subL, q_look, q_subD, q_subF, q_subS, q_sub2, q_sl, q_call, q_up, q_bi, q_isi, q_iteT, q_iteF, q_tsT, q_tsF, q_seq, q_lendD, q_lendF, q_lendS, q_enumT, q_enumL, q_o, q_app, q_ext, q_esc_o, q_escD_o, q_res_o, q_res_l, q_res_d, q_nx, q_rt, q_bk, q_ct, q_ifT, q_ifF, q_put, q_putS, q_putOk, q_P_f, q_P_d, q_P_l, q_P_s, q_set, q_setT, q_setS, q_setTs, q_fr_d, q_fr_o, q_fr_n, q_fr_l, q_lo_d, q_lo_n, q_lo_l, q_tru_b, q_tru_i, q_tru_t, q_tru_l, q_tru_n, q_add, q_sub, q_mul, q_fdiv, q_mod, q_pow, q_addL, q_addT, q_lt, q_le, q_gt, q_ge, q_eqS, q_neS, q_eqI, q_isN, q_isnN, q_isB, q_tsub, q_lsub, q_lenL, q_lenT, q_tupL, q_tupT, q_lstL, q_lstT, q_repr, q_max, q_min, q_kI, q_kS, q_sqL, q_sqT, q_evD, q_evL, q_argN, q_argC, q_arg, q_argD, q_at0, q_at1, q_at2, q_at3, q_run, q_finD, q_finF, q_finN, q_finS, q_finO, q_finL, evTs_nil, evO_no, evDs_nil, evKs_nil, evRs_nil, evPs_nil, exs_nil, ex_retN, ex_pass, ex_brk, ex_cont, ev_var, ev_lit, ev_glob, ev_app, ev_ext, esc_dat, esc_fresh, esc_loc, esc_slot, escD_dat, escD_fresh, escD_slot, res_dat, res_fresh, res_slot, setR_dat, setR_fresh, setR_loc, setR_tup, setT_nm, setT_tup, setTs_nil, setTs_cons, setRs_nil2, freeAt_eq, looseAt_eq, O.bind_ok, List.mapM_cons, List.mapM_nil, Option.bind_eq_bind, Option.bind_some, Option.pure_def, Option.map_some, List.getElem?_cons_succ, List.getElem?_cons_zero, List.length_cons, List.length_nil, Nat.reduceAdd, Nat.reduceSub, Nat.le_refl, and_self, List.replicate_succ, List.replicate_zero, List.append_nil, List.cons_append, List.nil_append, List.set_cons_succ, List.set_cons_zero, List.all_cons, List.all_nil, Bool.and_true, Bool.true_and, Bool.not_true, Bool.not_false, Nat.sub_self, List.append_assoc, RV.weak, r_turn, q_turn, q_turnT, q_turnF, q_wipe0, q_wipe1, q_back0, q_back1, q_lend0, q_unlend0, q_lend1, q_lend2, q_unlend1, q_unlend2, q_un, q_lends_o, q_lends_d, q_lends_l, cTurn, cTurn3, cTurn4, List.getD_cons_succ, List.getD_cons_zero, Option.map_none, q_tup0, q_lst0, q_tup1, q_lst1, q_tup2, q_lst2, q_tup3, q_lst3, q_tup4, q_lst4, q_tup5, q_lst5, q_tup6, q_lst6, q_tup7, q_lst7, q_tup8, q_lst8, q_tup9, q_lst9, q_tup10, q_lst10, q_tup11, q_lst11, q_tup12, q_lst12, le_lim0, lt_lim0, le_lim1, lt_lim1, le_lim2, lt_lim2, le_lim3, lt_lim3, le_lim4, lt_lim4, le_lim5, lt_lim5, le_lim6, lt_lim6, le_lim7, lt_lim7, le_lim8, lt_lim8, le_lim9, lt_lim9, le_lim10, lt_lim10, le_lim11, lt_lim11, le_lim12, lt_lim12, le_lim13, lt_lim13, le_lim14, lt_lim14, le_lim15, lt_lim15, le_lim16, lt_lim16, le_lim17, lt_lim17, le_lim18, lt_lim18, le_lim19, lt_lim19, le_lim20, lt_lim20, decide_true, decide_false, eq_self, r_while, cW1, cW2, q_wT, q_wF, q_wn, ne_I, q_maxT, intsOf_map, cCh1, cCh2, cCh3, r_chain, q_ch1, q_ch2T, q_ch2F, q_ch4, q_addBI, q_subBI, q_addIB, q_subIB, q_strB, q_isnB, cZip, cZip2, cZip3, cZip4, r_zip, q_zipT, cLoop, cTurnC, r_forC, r_forN, q_lpn, q_lpc, q_lpb, q_lpr, q_eqD, q_neD, q_at4, q_at5, q_at6, q_at7, q_at8, lt2, gt2, cut_to, cut_from, cut_bt, isi_nt, eqv_T, eqv_L, eqv_S, eqvA_n, eqvA_c, eqvA_nc, eqvA_cn, eqv_I, List.take_succ_cons, List.take_zero, List.drop_succ_cons, List.drop_zero, isN_n, isN_b, isN_i, isN_s, isN_l, isN_t, isi_tt, isi_ll, isi_ii, isi_ss, isi_ib, isi_bi, isi_bb, tru_s, cRev, cMth2, cMth, cPuti2, cPuti1, cPuti, cAug, r_rev, r_mth, r_puti, r_killx, Int.reduceAdd, Int.reduceSub, Int.reduceMul, Int.reducePow, Int.reduceNeg, Int.reduceToNat, Int.reduceLT, Int.reduceLE, Int.reduceGT, Int.reduceGE, Int.reduceEq, Int.reduceDiv, Int.reduceMod, Nat.reduceMul, Nat.reduceLT, Nat.reduceLeDiff, Nat.reduceEqDiff, Int.toNat_natCast, r_aug, q_rng, q_rev, q_mth, q_zipL, q_puti1, q_puti2, q_puti3, q_puti4, q_aug, q_aug2, q_aug3, q_enumS, killE_n, killE_c, kKill_d, kKill_o, kKill_l, kKill_n, kKill_c, q_addS, q_ltT, q_gtT, q_revL, q_revT, q_lenS, q_intI, q_intB, q_augI, q_augSub, q_augT, q_slT, q_slL, List.take_length, not_true_eq_false, not_false_eq_true, Bool.false_and, Bool.and_false, Bool.or_true, Bool.true_or, Bool.or_false, Bool.false_or, ite_true, ite_false, if_true, if_false, cond_true, cond_false, Bool.false_eq_true, upTo_len, q_repL, q_repT1, q_repT, Option.some.injEq, Bool.not_eq_true, Bool.decide_eq_true, q_range1, q_range2, $xs,*])
open Hlp Rng Kin Frc Prs Drw Frx Prx Pcs K10t K10u K10v
open Fra (Fq)
/-! a half's purse, ticked -/
abbrev RG : D := .tuple [.int 4, .int 0, .int 0, .tuple [.none, .none, .none, .none]]
abbrev LN : D := .tuple [RG, .int 0, .int 0, .tuple [], RG, .tuple [], .none, .bool false]
abbrev HF : D := .tuple [.int 0, .str "eth"]
abbrev HV (p : D) : D := .tuple [HF, .tuple [LN, LN], .tuple [], .tuple [], .tuple [], .tuple [], .tuple [], p, .int 0]
structure Hx (ds : Nat → Option Df) : Prop where
  h31 : ds 31 = some Rng.f31
  h94 : ds 94 = some f94
  h95 : ds 95 = some f95
  h96 : ds 96 = some f96
  h98 : ds 98 = some f98
  h99 : ds 99 = some f99
  h100 : ds 100 = some f100
  h21 : ds 21 = some Pcs.f21
theorem lane_run {ds : Nat → Option Df} (G : Hx ds) {fuel k : Nat} {st : Sto} : callN ds fuel (k + 2) 94 [.dat (.int 4)] st = .ok (.dat LN) st := by
  have e : callN ds fuel (k + 1) 31 [.dat (.int 4)] st = .ok (.dat RG) st := by
    have t4 : binD .mul (.tuple [.none]) (.int 4) = some (.dat (.tuple [.none, .none, .none, .none])) := by
      rw [q_repT ⟨by simp, by omega, by omega, by simp⟩]; rfl
    rw [callN_eq G.h31]
    push_cast [t4]
  rw [callN_eq G.h94]
  push_cast [e]
theorem half_run0 {ds : Nat → Option Df} (G : Hx ds) {fuel k : Nat} {st : Sto} {p : D} : callN ds fuel (k + 3) 95 [.dat HF, .dat p, .dat (.int 2), .dat (.int 4)] st = .ok (.dat (HV p)) st := by
  have cm : compL (turnF ⟨callN ds fuel (k + 2), fuel⟩ (.nm 4) [4] .nil (.call 94 (.cons (.var 3) .nil) .nil [.inl 0])) (upTo 0 2) [] ⟨[.dat HF, .dat p, .dat (.int 2), .dat (.int 4), .non], st⟩ = .ok [LN, LN] ⟨[.dat HF, .dat p, .dat (.int 2), .dat (.int 4), .non], st⟩ := by
    rw [compL_pure (g := fun _ => some LN) (fun x mx => ?_) (by rw [upTo_len, List.length_nil, lim_eq]; decide)]
    · rfl
    · have e := lane_run G (fuel := fuel) (k := k) (st := st)
      generalize LN = N at *
      generalize HF = H at *
      push_cast [e]
  have rl : (upTo 0 2).length ≤ lim := by rw [upTo_len]; exact lim_le (by decide)
  show callN ds fuel (k + 2 + 1) 95 _ st = _
  rw [callN_eq G.h95]
  show _ = OC.ok (.dat (.tuple [HF, .tuple [LN, LN], .tuple [], .tuple [], .tuple [], .tuple [], .tuple [], p, .int 0])) st
  generalize LN = N at *
  generalize HF = H at *
  push_cast [cm, rl]
theorem look_run {ds : Nat → Option Df} (G : Hx ds) {fuel k j : Nat} {st : Sto} {p : D} {c : Int} (hj : j < 2) : callN ds fuel (k + 2) 99 [.dat (HV p), .dat (.int j), .dat (.int c), .dat (.tuple [.int 2, .int 4])] st = .ok (.dat (.tuple [HV p, .tuple []])) st := by
  have e : callN ds fuel (k + 1) 98 [.dat (.tuple [.int 0, .none, .bool false]), .dat (.int c), .dat (.tuple [.int 2, .int 4])] st = .ok (.dat (.bool false)) st := by
    rw [callN_eq G.h98]
    push_cast []
  rw [callN_eq G.h99]
  generalize HF = H at *
  generalize RG = R at *
  have : j = 0 ∨ j = 1 := by omega
  rcases this with rfl | rfl
  · push_cast [e, show ((0 : Nat) : Int) = 0 from rfl]
  · push_cast [e, show ((1 : Nat) : Int) = 1 from rfl, show ((0 : Nat) : Int) = 0 from rfl]
theorem tick_run {ds : Nat → Option Df} (G : Hx ds) {fuel k : Nat} {st : Sto} {p p2 land : D} {c : Int} (e : callN ds fuel (k + 4) 92 [.dat p, .dat (.int 1)] st = .ok (.dat p2) st) : callN ds fuel (k + 5) 100 [.dat (HV p), .dat land, .dat (.int c), .dat (.int 2), .dat (.int 4)] st = .ok (.dat (.tuple [HV p2, land, .tuple []])) st := by
  have e1 : callN ds fuel (k + 4) 96 [.dat (HV p), .dat (.int 7), .dat p2] st = .ok (.dat (HV p2)) st := by
    show callN ds fuel (k + 3 + 1) 96 _ st = _
    rw [callN_eq G.h96]
    generalize HF = H at *
    generalize LN = N at *
    push_cast []
  obtain ⟨s', le, es⟩ := forL_inv (t := .nm 7) (f := exs ⟨callN ds fuel (k + 4), fuel⟩ f100_3) (xs := upTo 0 2) (s := ⟨[.dat (HV p), .dat land, .dat (.int c), .dat (.int 2), .dat (.int 4), .dat (HV p2), .dat (.tuple []), .non, .non], st⟩)
    (fun i z => z = ⟨[.dat (HV p), .dat land, .dat (.int c), .dat (.int 2), .dat (.int 4), .dat (HV p2), .dat (.tuple []), .non, .non], st⟩) rfl fun j x z hj es => by
      obtain ⟨hlt, rfl⟩ := upTo_get _ _ _ _ hj
      subst es
      have e3 := look_run G (fuel := fuel) (k := k + 2) (j := j) (st := st) (p := p2) (c := c) hlt
      replace e3 : callN ds fuel (k + 4) 99 _ st = _ := e3
      refine ⟨_, .inl ?_, rfl⟩
      rw [Int.zero_add]
      generalize HV p2 = V2 at *
      generalize HV p = V1 at *
      push_cast [cTurnL, e3]
  subst es
  have rl : (upTo 0 2).length ≤ lim := by rw [upTo_len]; exact lim_le (by decide)
  show callN ds fuel (k + 4 + 1) 100 _ st = _
  rw [callN_eq G.h100]
  generalize hV2 : HV p2 = V2 at *
  generalize HF = H at *
  generalize LN = N at *
  have g7 : ((2 : Nat) : Int) = 2 := rfl
  push_cast [e, e1, le, rl]

theorem eqv_refl_M : cmpD .ne (memd (voidM 8)) (memd (voidM 8)) = some false := by decide +kernel
theorem hv_lay {a b c : Q} : shp (HV (pu a b c)) = true := by
  have e1 : PyData.canLay0 HF = true := by decide +kernel
  have e2 : PyData.canLay0 LN = true := by decide +kernel
  have d1 : PyData.depth HF = 1 := by decide +kernel
  have d2 : PyData.depth LN = 3 := by decide +kernel
  have d3 : PyData.depth (pu a b c) = 2 := by simp [PyData.depth, PyData.depthAll]
  have e3 : PyData.canLay0 (pu a b c) = true := by simp [PyData.canLay0, PyData.canLayAll0]
  show (PyData.canLay0 (HV (pu a b c)) && decide ((HV (pu a b c)).depth ≤ 64)) = true
  show (PyData.canLay0 (.tuple [HF, .tuple [LN, LN], .tuple [], .tuple [], .tuple [], .tuple [], .tuple [], pu a b c, .int 0]) && decide (PyData.depth (.tuple [HF, .tuple [LN, LN], .tuple [], .tuple [], .tuple [], .tuple [], .tuple [], pu a b c, .int 0]) ≤ 64)) = true
  generalize pu a b c = P at *
  generalize HF = H at *
  generalize LN = N at *
  simp [PyData.canLay0, PyData.canLayAll0, PyData.depth, PyData.depthAll, e1, e2, e3, d1, d2, d3]
theorem hv_eqv {a b c : Q} : PyData.eqv (HV (pu a b c)) (HV (pu a b c)) = true := by
  have e1 : PyData.eqv HF HF = true := by decide +kernel
  have e2 : PyData.eqv LN LN = true := by decide +kernel
  have e3 := eqv_pu (a := a) (b := b) (c := c)
  show PyData.eqv (.tuple [HF, .tuple [LN, LN], .tuple [], .tuple [], .tuple [], .tuple [], .tuple [], pu a b c, .int 0]) (.tuple [HF, .tuple [LN, LN], .tuple [], .tuple [], .tuple [], .tuple [], .tuple [], pu a b c, .int 0]) = true
  generalize pu a b c = P at *
  generalize HF = H at *
  generalize LN = N at *
  simp [PyData.eqv, PyData.eqvAll, e1, e2, e3]
theorem eq_hv {a b c : Q} : cmpD .eq (HV (pu a b c)) (HV (pu a b c)) = some true := by
  show (if shp (HV (pu a b c)) && shp (HV (pu a b c)) then some (PyData.eqv (HV (pu a b c)) (HV (pu a b c))) else none) = _
  rw [hv_lay, hv_eqv]; rfl
section
variable {h r m : Q}
theorem half_loop {ds : Nat → Option Df} (F : Px ds) (G : Hx ds) {fuel k t : Nat} {st : Sto} (hf : Fu fuel) (P : Pd h r m) (ht : t ≤ 1000) :
    forL (.nm 4) (exs ⟨callN ds fuel (k + 5), fuel⟩ f105_6) (upTo 0 t) ⟨[.dat (pu h r m), .dat (.int t), .dat (HV (pu h r m)), .dat (memd (voidM 8)), .non, .non], st⟩ = .ok .next ⟨[.dat (pu h r m), .dat (.int t), .dat (HV (pu (Fra.fil h r m t) r m)), .dat (memd (voidM 8)), .non, .non], st⟩ := by
  obtain ⟨s', le, es⟩ := forL_inv (t := .nm 4) (f := exs ⟨callN ds fuel (k + 5), fuel⟩ f105_6) (xs := upTo 0 t) (s := ⟨[.dat (pu h r m), .dat (.int t), .dat (HV (pu h r m)), .dat (memd (voidM 8)), .non, .non], st⟩)
    (fun i z => z = ⟨[.dat (pu h r m), .dat (.int t), .dat (HV (pu (Fra.fil h r m i) r m)), .dat (memd (voidM 8)), .non, .non], st⟩) (by rw [P.zero]) fun j x z hj es => by
      obtain ⟨hlt, rfl⟩ := upTo_get _ _ _ _ hj
      subst es
      have e1 := fill0 F (k := k + 1) (t := j) (st := st) hf P (by omega)
      have e2 := fillN F (k := k) (s := j) (t := 1) (st := st) hf P (by omega) (by decide)
      replace e2 : callN ds fuel (k + 4) 92 [.dat (pu (Fra.fil h r m j) r m), .dat (.int 1)] st = _ := e2
      have e3 := tick_run G (k := k) (land := memd (voidM 8)) (c := (j : Int) + 1) e2
      have e4 := void_run G.h21 (fuel := fuel) (k := k + 4) (n := 8) (st := st) (by decide)
      replace e4 : callN ds fuel (k + 5) 21 [.dat (.int 8)] st = _ := e4
      have n1 := ne_pu (a := Fra.fil h r m j) (b := r) (c := m)
      have n2 := eqv_refl_M
      have n3 : cmpD .ne (.tuple []) (.tuple []) = some false := by decide +kernel
      have a7 : L2.atI [HF, .tuple [LN, LN], .tuple [], .tuple [], .tuple [], .tuple [], .tuple [], pu (Fra.fil h r m j) r m, .int 0] 7 = some (pu (Fra.fil h r m j) r m) := rfl
      refine ⟨_, .inl ?_, rfl⟩
      rw [Int.zero_add]
      have sb : subD (HV (pu (Fra.fil h r m j) r m)) (.int 7) = some (pu (Fra.fil h r m j) r m) := a7
      generalize HV (pu (Fra.fil h r m (j + 1)) r m) = V2 at *
      generalize HV (pu (Fra.fil h r m j) r m) = V1 at *
      generalize pu (Fra.fil h r m j) r m = B at *
      generalize pu h r m = P0 at *
      generalize memd (voidM 8) = M8 at *
      push_cast [cTurnL, sb, e1, n1, e3, n3, e4, n2]
  rw [upTo_len] at es
  rw [le, es]
theorem half_right {ds : Nat → Option Df} (F : Px ds) (G : Hx ds) (h105 : ds 105 = some f105) {fuel k t : Nat} {st : Sto} (hf : Fu fuel) (P : Pd h r m) (ht : t ≤ 1000) : callN ds fuel (k + 6) 105 [.dat (pu h r m), .dat (.int t)] st = .ok (.dat (.bool true)) st := by
  have lp := half_loop F G (k := k) (t := t) (st := st) hf P ht
  have e1 := half_run0 G (fuel := fuel) (k := k + 2) (st := st) (p := pu h r m)
  have e2 := half_run0 G (fuel := fuel) (k := k + 2) (st := st) (p := pu (Fra.fil h r m t) r m)
  have e3 := fill0 F (k := k + 1) (t := t) (st := st) hf P (by omega)
  have e4 := void_run G.h21 (fuel := fuel) (k := k + 4) (n := 8) (st := st) (by decide)
  replace e1 : callN ds fuel (k + 5) 95 [.dat (.tuple [.int 0, .str "eth"]), .dat (pu h r m), .dat (.int 2), .dat (.int 4)] st = _ := e1
  replace e2 : callN ds fuel (k + 5) 95 [.dat (.tuple [.int 0, .str "eth"]), .dat (pu (Fra.fil h r m t) r m), .dat (.int 2), .dat (.int 4)] st = _ := e2
  replace e4 : callN ds fuel (k + 5) 21 [.dat (.int 8)] st = _ := e4
  have q := eq_hv (a := Fra.fil h r m t) (b := r) (c := m)
  show callN ds fuel (k + 5 + 1) 105 _ st = _
  rw [callN_eq h105]
  generalize HV (pu (Fra.fil h r m t) r m) = V2 at *
  generalize HV (pu h r m) = V1 at *
  generalize pu (Fra.fil h r m t) r m = B at *
  generalize pu h r m = P0 at *
  generalize memd (voidM 8) = M8 at *
  push_cast [e1, e4, lp, e3, e2, q]
end
end K10w
end
section
set_option Elab.async false
set_option linter.all false
set_option maxRecDepth 20000
open PySem L2 Pur
namespace K10y
local macro_rules | `(tactic| push_cast [$xs,*]) => `(tactic| simp (implicitDefEqProofs := false) (disch := (first | assumption | exact ⟨rfl, by decide⟩ | exact okI_of (by omega) | exact mulOk_64 (by omega) (by omega) | exact fdiv_64 (by omega) (by omega) | (simp only [lim_eq, List.length_append, List.length_map, List.length_cons, List.length_nil, List.length_reverse, List.length_take, List.length_drop, List.length_replicate, List.length_range, upTo_len, enumD_len, zipD_len]; omega) | omega | (simp only [shp_sh, sh_n, sh_b, sh_i, sh_s, sh_T, sh_L, sh_ints, List.all_cons, List.all_nil, List.all_append, Bool.and_self, Bool.and_true]; first | done | decide))) only [cTst, cNeg, cNt, cAnd, cOr, cBin2, cBin, cCmp2, cCmp, cIte, cTup, cLst, cSub2, cSub, cSl3, cSl2, cSl, cCall2, cCall, cBi, cIsi, cDict, cComp, cTs, cO, cSeq, cRange, cEnum, cDs3, cDs2, cDs, cKs3, cKs2, cKs, cRs, cPs2, cPs, cNext, cAsg, cPar, cSetRs, cPut4, cPut3, cPut2, cPut, cRet, cIf, cSeqS, cFor, cSetSlot, cApp2, cApp, cExt, cComp7, r_tst, r_neg, r_nt, r_and, r_or, r_bin, r_cmp, r_ite, r_tup, r_lst, r_sub, r_slice, r_call, r_bi, r_isi, r_dict, r_comp, r_Ts, r_yes, r_seq, r_range, r_enum, r_Ds, r_Ks, r_Rs, r_Ps, r_seqS, r_asg, r_par, r_put, r_expr, r_ret, r_ifs, r_for, r_setRs, r_setSlot, r_app, r_ext, r_kcomp, q_var_d, q_var_o, q_var_l, q_var_n, q_tst, q_neg, q_andT, q_andF, q_orT, q_orF, q_bin, q_cmp, q_of, q_subL, q_look, q_subD, q_subF, q_subS, q_sub2, q_sl, q_call, q_up, q_bi, q_isi, q_iteT, q_iteF, q_tsT, q_tsF, q_seq, q_lendD, q_lendF, q_lendS, q_enumT, q_enumL, q_o, q_app, q_ext, q_esc_o, q_escD_o, q_res_o, q_res_l, q_res_d, q_nx, q_rt, q_bk, q_ct, q_ifT, q_ifF, q_put, q_putS, q_putOk, q_P_f, q_P_d, q_P_l, q_P_s, q_set, q_setT, q_setS, q_setTs, q_fr_d, q_fr_o, q_fr_n, q_fr_l, q_lo_d, q_lo_n, q_lo_l, q_tru_b, q_tru_i, q_tru_t, q_tru_l, q_tru_n, q_add, q_sub, q_mul, q_fdiv, q_mod, q_pow, q_addL, q_addT, q_lt, q_le, q_gt, q_ge, q_eqS, q_neS, q_eqI, q_isN, q_isnN, q_isB, q_tsub, q_lsub, q_lenL, q_lenT, q_tupL, q_tupT, q_lstL, q_lstT, q_repr, q_max, q_min, q_kI, q_kS, q_sqL, q_sqT, q_evD, q_evL, q_argN, q_argC, q_arg, q_argD, q_at0, q_at1, q_at2, q_at3, q_run, q_finD, q_finF, q_finN, q_finS, q_finO, q_finL, evTs_nil, evO_no, evDs_nil, evKs_nil, evRs_nil, evPs_nil, exs_nil, ex_retN, ex_pass, ex_brk, ex_cont, ev_var, ev_lit, ev_glob, ev_app, ev_ext, esc_dat, esc_fresh, esc_loc, esc_slot, escD_dat, escD_fresh, escD_slot, res_dat, res_fresh, res_slot, setR_dat, setR_fresh, setR_loc, setR_tup, setT_nm, setT_tup, setTs_nil, setTs_cons, setRs_nil2, freeAt_eq, looseAt_eq, O.bind_ok, List.mapM_cons, List.mapM_nil, Option.bind_eq_bind, Option.bind_some, Option.pure_def, Option.map_some, List.getElem?_cons_succ, List.getElem?_cons_zero, List.length_cons, List.length_nil, Nat.reduceAdd, Nat.reduceSub, Nat.le_refl, and_self, List.replicate_succ, List.replicate_zero, List.append_nil, List.cons_append, List.nil_append, List.set_cons_succ, List.set_cons_zero, List.all_cons, List.all_nil, Bool.and_true, Bool.true_and, Bool.not_true, Bool.not_false, Nat.sub_self, List.append_assoc, RV.weak, r_turn, q_turn, q_turnT, q_turnF, q_wipe0, q_wipe1, q_back0, q_back1, q_lend0, q_unlend0, q_lend1, q_lend2, q_unlend1, q_unlend2, q_un, q_lends_o, q_lends_d, q_lends_l, cTurn, cTurn3, cTurn4, List.getD_cons_succ, List.getD_cons_zero, Option.map_none, q_tup0, q_lst0, q_tup1, q_lst1, q_tup2, q_lst2, q_tup3, q_lst3, q_tup4, q_lst4, q_tup5, q_lst5, q_tup6, q_lst6, q_tup7, q_lst7, q_tup8, q_lst8, q_tup9, q_lst9, q_tup10, q_lst10, q_tup11, q_lst11, q_tup12, q_lst12, le_lim0, lt_lim0, le_lim1, lt_lim1, le_lim2, lt_lim2, le_lim3, lt_lim3, le_lim4, lt_lim4, le_lim5, lt_lim5, le_lim6, lt_lim6, le_lim7, lt_lim7, le_lim8, lt_lim8, le_lim9, lt_lim9, le_lim10, lt_lim10, le_lim11, lt_lim11, le_lim12, lt_lim12, le_lim13, lt_lim13, le_lim14, lt_lim14, le_lim15, lt_lim15, le_lim16, lt_lim16, le_lim17, lt_lim17, le_lim18, lt_lim18, le_lim19, lt_lim19, le_lim20, lt_lim20, decide_true, decide_false, eq_self, r_while, cW1, cW2, q_wT, q_wF, q_wn, ne_I, q_maxT, intsOf_map, cCh1, cCh2, cCh3, r_chain, q_ch1, q_ch2T, q_ch2F, q_ch4, q_addBI, q_subBI, q_addIB, q_subIB, q_strB, q_isnB, cZip, cZip2, cZip3, cZip4, r_zip, q_zipT, cLoop, cTurnC, r_forC, r_forN, q_lpn, q_lpc, q_lpb, q_lpr, q_eqD, q_neD, q_at4, q_at5, q_at6, q_at7, q_at8, lt2, gt2, cut_to, cut_from, cut_bt, isi_nt, eqv_T, eqv_L, eqv_S, eqvA_n, eqvA_c, eqvA_nc, eqvA_cn, eqv_I, List.take_succ_cons, List.take_zero, List.drop_succ_cons, List.drop_zero, isN_n, isN_b, isN_i, isN_s, isN_l, isN_t, isi_tt, isi_ll, isi_ii, isi_ss, isi_ib, isi_bi, isi_bb, tru_s, cRev, cMth2, cMth, cPuti2, cPuti1, cPuti, cAug, r_rev, r_mth, r_puti, r_killx, Int.reduceAdd, Int.reduceSub, Int.reduceMul, Int.reducePow, Int.reduceNeg, Int.reduceToNat, Int.reduceLT, Int.reduceLE, Int.reduceGT, Int.reduceGE, Int.reduceEq, Int.reduceDiv, Int.reduceMod, Nat.reduceMul, Nat.reduceLT, Nat.reduceLeDiff, Nat.reduceEqDiff, Int.toNat_natCast, r_aug, q_rng, q_rev, q_mth, q_zipL, q_puti1, q_puti2, q_puti3, q_puti4, q_aug, q_aug2, q_aug3, q_enumS, killE_n, killE_c, kKill_d, kKill_o, kKill_l, kKill_n, kKill_c, q_addS, q_ltT, q_gtT, q_revL, q_revT, q_lenS, q_intI, q_intB, q_augI, q_augSub, q_augT, q_slT, q_slL, List.take_length, not_true_eq_false, not_false_eq_true, Bool.false_and, Bool.and_false, Bool.or_true, Bool.true_or, Bool.or_false, Bool.false_or, ite_true, ite_false, if_true, if_false, cond_true, cond_false, Bool.false_eq_true, upTo_len, q_repL, q_repT1, q_repT, Option.some.injEq, Bool.not_eq_true, Bool.decide_eq_true, q_range1, q_range2, $xs,*])
open Hlp Rng Kin Frc Prs Drw Frx Prx Pcs K10t K10u K10v K10w
open Fra (Fq)
/-! times -/
def tm (c : Nat) (d : Q) : Nat := c * d.1 / d.2
theorem time_run {ds : Nat → Option Df} (h : ds 101 = some f101) {fuel k c : Nat} {st : Sto} {d : Q} (hc : c < 2 ^ 100) (hd : Sm 100 d) (d0 : 0 < d.2) : callN ds fuel (k + 1) 101 [.dat (.int c), .dat (fr d)] st = .ok (.dat (.int (tm c d))) st := by
  obtain ⟨a, b⟩ := d
  have m1 := mulN (n := 100) hc hd.1 (by decide)
  simp only at m1
  have lg : ((b : Int)).natAbs.log2 < 9000 := by
    show b.log2 < 9000
    have : b.log2 < 100 := (Nat.log2_lt (by simp only at d0; omega)).mpr hd.2
    omega
  have d1 : binD .fdiv (.int ((c * a : Nat) : Int)) (.int (b : Int)) = some (.dat (.int ((c * a / b : Nat) : Int))) := by
    rw [q_fdiv ⟨by simp only at d0; omega, lg⟩, ← Int.natCast_ediv]
  show callN ds fuel (k + 1) 101 [.dat (.int c), .dat (.tuple [.int a, .int b])] st = .ok (.dat (.int ((c * a / b : Nat) : Int))) st
  rw [callN_eq h]
  push_cast [m1, d1]
theorem tm_R {p : Q} {a b c : Nat} (h : Fra.R p a b) : tm c p = c * a / b := by
  unfold tm
  have e := h.e
  have h1 : c * p.1 / p.2 = (c * p.1 * b) / (p.2 * b) := (Nat.mul_div_mul_right _ _ h.pos).symm
  have h2 : c * a / b = (c * a * p.2) / (b * p.2) := (Nat.mul_div_mul_right _ _ h.q.d).symm
  rw [h1, h2, Nat.mul_comm b p.2]
  congr 1
  rw [Nat.mul_assoc, e, Nat.mul_assoc]
theorem tm_add {p q : Q} {c : Nat} (hp : Fq p) (hq : Fq q) : tm c p ≤ tm c (Fra.add p q) := by
  rw [tm_R (Fra.R.add (.self hp) (.self hq))]
  unfold tm
  have h1 : c * p.1 / p.2 = (c * p.1 * q.2) / (p.2 * q.2) := (Nat.mul_div_mul_right _ _ hq.d).symm
  rw [h1]
  refine Nat.div_le_div_right ?_
  rw [Nat.mul_add, Nat.mul_assoc]
  omega
theorem tm_le {p : Q} {c m : Nat} : tm c p ≤ tm (c + m) p := Nat.div_le_div_right (Nat.mul_le_mul_right _ (Nat.le_add_right _ _))
theorem tm_one {c : Nat} : tm c one1 = c := by unfold tm; simp
theorem tm_lt1 {p : Q} {c : Nat} (hp : Fq p) : Fra.lt (Fra.mul p (c, 1)) (tm c p, 1) = false := by
  rw [(Fra.R.mul (.self hp) (.self Fra.fqn)).lt (.self Fra.fqn)]
  refine decide_eq_false ?_
  have := Nat.div_mul_le_self (c * p.1) p.2
  unfold tm
  rw [Nat.mul_one, Nat.mul_one, Nat.mul_comm p.1 c]
  show ¬ c * p.1 < c * p.1 / p.2 * p.2
  omega
theorem tm_lt2 {p : Q} {c : Nat} (hp : Fq p) : Fra.lt (Fra.mul p (c, 1)) (tm c p + 1, 1) = true := by
  rw [(Fra.R.mul (.self hp) (.self Fra.fqn)).lt (.self Fra.fqn)]
  refine decide_eq_true ?_
  have := Nat.lt_div_mul_add hp.d (a := c * p.1)
  unfold tm
  rw [Nat.mul_one, Nat.mul_one, Nat.mul_comm p.1 c, Nat.add_mul, Nat.one_mul]
  exact this
theorem times_right {ds : Nat → Option Df} (Dr : Dw ds) (F : Px ds) (h101 : ds 101 = some f101) (h106 : ds 106 = some f106) {fuel k n : Nat} {st : Sto} {p q : Q} (hf : Fu fuel) (hp : Fq p) (hq : Fq q) (sp : Sm 20 p) (sq : Sm 20 q) (hfe : Fe n st) (hn : n ≤ 800000) :
    ∃ st', Fe (n + 2) st' ∧ callN ds fuel (k + 5) 106 [.loc 0, .dat (fr p), .dat (fr q)] st = .ok (.dat (.bool true)) st' := by
  obtain ⟨c, s1, c1, f1, e1⟩ := draw_run Dr (fuel := fuel) (k := k + 3) (many := 10001) hfe (by omega) (by decide) (by decide)
  obtain ⟨m, s2, c2, f2, e2⟩ := draw_run Dr (fuel := fuel) (k := k + 3) (many := 50) f1 (by omega) (by decide) (by decide)
  have hc : c < 2 ^ 20 := by omega
  have hcb : c < 2 ^ 100 := Nat.lt_of_lt_of_le hc (Nat.pow_le_pow_right (by decide) (by decide))
  have hcm : c + m < 2 ^ 100 := Nat.lt_of_lt_of_le (show c + m < 2 ^ 20 by omega) (Nat.pow_le_pow_right (by decide) (by decide))
  have e3 := time_run h101 (fuel := fuel) (k := k + 3) (st := s2) hcb (sp.mono (by decide : 20 ≤ 100)) hp.d
  have e4 := time_run h101 (fuel := fuel) (k := k + 3) (st := s2) hcm (sp.mono (by decide : 20 ≤ 100)) hp.d
  rw [Int.natCast_add] at e4
  have sa : Sm 41 (Fra.add p q) := sp.add sq (by decide)
  have e5 := added_run F.toFx (k := k + 1) (st := s2) hf sp sq (by decide) hp.d hq.d
  have e6 := time_run h101 (fuel := fuel) (k := k + 3) (st := s2) hcb (sa.mono (by decide : 41 ≤ 100)) (hp.add hq).d
  have g1 : ¬ ((tm (c + m) p : Nat) : Int) < (tm c p : Nat) := by have := tm_le (p := p) (c := c) (m := m); omega
  have g2 : ¬ ((tm c (Fra.add p q) : Nat) : Int) < (tm c p : Nat) := by have := tm_add (c := c) hp hq; omega
  have e7 := ratio_run F.toFx (k := k + 2) (a := c) (b := 1) (st := s2) hf Nat.one_pos (Nat.one_lt_two_pow (by decide))
  rw [Fra.rat_one] at e7
  replace e7 : callN ds fuel (k + 4) 85 [.dat (.int c), .dat (.int 1)] s2 = _ := e7
  have sc : Sm 20 ((c, 1) : Q) := ⟨hc, Nat.one_lt_two_pow (by decide)⟩
  have e8 := times_run F.toFx (k := k + 1) (st := s2) hf sp sc (by decide) hp.d Nat.one_pos
  have ht : tm c p < 2 ^ 50 := by
    have h1 : tm c p ≤ c * p.1 := Nat.div_le_self _ _
    have h2 := mul_lt2 (n := 20) hc sp.1
    exact Nat.lt_of_le_of_lt h1 (Nat.lt_of_lt_of_le h2 (Nat.pow_le_pow_right (by decide) (by decide)))
  have e9 := ratio_run F.toFx (k := k + 2) (a := tm c p) (b := 1) (st := s2) hf Nat.one_pos (Nat.one_lt_two_pow (by decide))
  rw [Fra.rat_one] at e9
  replace e9 : callN ds fuel (k + 4) 85 [.dat (.int (tm c p)), .dat (.int 1)] s2 = _ := e9
  have e10 := ratio_run F.toFx (k := k + 2) (a := tm c p + 1) (b := 1) (st := s2) hf Nat.one_pos (Nat.one_lt_two_pow (by decide))
  rw [Fra.rat_one, Int.natCast_add] at e10
  replace e10 : callN ds fuel (k + 4) 85 [.dat (.int ((tm c p : Nat) + 1)), .dat (.int 1)] s2 = _ := e10
  have sm2 : Sm 60 (Fra.mul p (c, 1)) := Sm.mul sp sc (by decide)
  have l1 := lt_run F.toFx (fuel := fuel) (k := k + 3) (st := s2) (q := (tm c p, 1)) sm2 ⟨Nat.lt_of_lt_of_le ht (Nat.pow_le_pow_right (by decide) (by decide)), Nat.one_lt_two_pow (by decide)⟩ (by decide)
  rw [tm_lt1 hp] at l1
  have l2 := lt_run F.toFx (fuel := fuel) (k := k + 3) (st := s2) (q := (tm c p + 1, 1)) sm2 ⟨Nat.lt_of_lt_of_le (show tm c p + 1 < 2 ^ 51 by omega) (Nat.pow_le_pow_right (by decide) (by decide)), Nat.one_lt_two_pow (by decide)⟩ (by decide)
  rw [tm_lt2 hp] at l2
  have e11 := time_run h101 (fuel := fuel) (k := k + 3) (d := one1) (st := s2) hcb ⟨Nat.one_lt_two_pow (by decide), Nat.one_lt_two_pow (by decide)⟩ Nat.one_pos
  rw [tm_one] at e11
  replace e11 : callN ds fuel (k + 4) 101 [.dat (.int c), .dat (.tuple [.int 1, .int 1])] s2 = _ := e11
  have n1 : cmpD .ne (.int c) (.int c) = some false := by
    show (if shp (.int c) && shp (.int c) then some (!PyData.eqv (.int c) (.int c)) else none) = _
    have s : shp (.int (c : Int)) = true := rfl
    rw [s]
    simp [PyData.eqv]
  refine ⟨s2, f2, ?_⟩
  show callN ds fuel (k + 4 + 1) 106 _ st = _
  rw [callN_eq h106]
  generalize fr (tm c p + 1, 1) = X1 at *
  generalize fr (tm c p, 1) = X2 at *
  generalize fr (Fra.mul p (c, 1)) = X3 at *
  generalize fr (c, 1) = X4 at *
  generalize fr (Fra.add p q) = X5 at *
  generalize fr p = P at *
  generalize fr q = R at *
  generalize hT : ((tm c p : Nat) : Int) = T at *
  push_cast [e1, e2, e3, e4, e5, e6, g1, g2, e7, e8, e9, l1, e11, n1, e10, l2, hfe.take f2]
end K10y
end
section
set_option Elab.async false
set_option linter.all false
set_option maxRecDepth 20000
open PySem L2 Pur
namespace K10z0
local macro_rules | `(tactic| push_cast [$xs,*]) => `(tactic| simp (implicitDefEqProofs := false) (disch := (first | assumption | exact ⟨rfl, by decide⟩ | exact okI_of (by omega) | exact mulOk_64 (by omega) (by omega) | exact fdiv_64 (by omega) (by omega) | (simp only [lim_eq, List.length_append, List.length_map, List.length_cons, List.length_nil, List.length_reverse, List.length_take, List.length_drop, List.length_replicate, List.length_range, upTo_len, enumD_len, zipD_len]; omega) | omega | (simp only [shp_sh, sh_n, sh_b, sh_i, sh_s, sh_T, sh_L, sh_ints, List.all_cons, List.all_nil, List.all_append, Bool.and_self, Bool.and_true]; first | done | decide))) only [cTst, cNeg, cNt, cAnd, cOr, cBin2, cBin, cCmp2, cCmp, cIte, cTup, cLst, cSub2, cSub, cSl3, cSl2, cSl, cCall2, cCall, cBi, cIsi, cDict, cComp, cTs, cO, cSeq, cRange, cEnum, cDs3, cDs2, cDs, cKs3, cKs2, cKs, cRs, cPs2, cPs, cNext, cAsg, cPar, cSetRs, cPut4, cPut3, cPut2, cPut, cRet, cIf, cSeqS, cFor, cSetSlot, cApp2, cApp, cExt, cComp7, r_tst, r_neg, r_nt, r_and, r_or, r_bin, r_cmp, r_ite, r_tup, r_lst, r_sub, r_slice, r_call, r_bi, r_isi, r_dict, r_comp, r_Ts, r_yes, r_seq, r_range, r_enum, r_Ds, r_Ks, r_Rs, r_Ps, r_seqS, r_asg, r_par, r_put, r_expr, r_ret, r_ifs, r_for, r_setRs, r_setSlot, r_app, r_ext, r_kcomp, q_var_d, q_var_o, q_var_l, q_var_n, q_tst, q_neg, q_andT, q_andF, q_orT, q_orF, q_bin, q_cmp, q_of, q_subL, q_look, q_subD, q_subF, q_subS, q_sub2, q_sl, q_call, q_up, q_bi, q_isi, q_iteT, q_iteF, q_tsT, q_tsF, q_seq, q_lendD, q_lendF, q_lendS, q_enumT, q_enumL, q_o, q_app, q_ext, q_esc_o, q_escD_o, q_res_o, q_res_l, q_res_d, q_nx, q_rt, q_bk, q_ct, q_ifT, q_ifF, q_put, q_putS, q_putOk, q_P_f, q_P_d, q_P_l, q_P_s, q_set, q_setT, q_setS, q_setTs, q_fr_d, q_fr_o, q_fr_n, q_fr_l, q_lo_d, q_lo_n, q_lo_l, q_tru_b, q_tru_i, q_tru_t, q_tru_l, q_tru_n, q_add, q_sub, q_mul, q_fdiv, q_mod, q_pow, q_addL, q_addT, q_lt, q_le, q_gt, q_ge, q_eqS, q_neS, q_eqI, q_isN, q_isnN, q_isB, q_tsub, q_lsub, q_lenL, q_lenT, q_tupL, q_tupT, q_lstL, q_lstT, q_repr, q_max, q_min, q_kI, q_kS, q_sqL, q_sqT, q_evD, q_evL, q_argN, q_argC, q_arg, q_argD, q_at0, q_at1, q_at2, q_at3, q_run, q_finD, q_finF, q_finN, q_finS, q_finO, q_finL, evTs_nil, evO_no, evDs_nil, evKs_nil, evRs_nil, evPs_nil, exs_nil, ex_retN, ex_pass, ex_brk, ex_cont, ev_var, ev_lit, ev_glob, ev_app, ev_ext, esc_dat, esc_fresh, esc_loc, esc_slot, escD_dat, escD_fresh, escD_slot, res_dat, res_fresh, res_slot, setR_dat, setR_fresh, setR_loc, setR_tup, setT_nm, setT_tup, setTs_nil, setTs_cons, setRs_nil2, freeAt_eq, looseAt_eq, O.bind_ok, List.mapM_cons, List.mapM_nil, Option.bind_eq_bind, Option.bind_some, Option.pure_def, Option.map_some, List.getElem?_cons_succ, List.getElem?_cons_zero, List.length_cons, List.length_nil, Nat.reduceAdd, Nat.reduceSub, Nat.le_refl, and_self, List.replicate_succ, List.replicate_zero, List.append_nil, List.cons_append, List.nil_append, List.set_cons_succ, List.set_cons_zero, List.all_cons, List.all_nil, Bool.and_true, Bool.true_and, Bool.not_true, Bool.not_false, Nat.sub_self, List.append_assoc, RV.weak, r_turn, q_turn, q_turnT, q_turnF, q_wipe0, q_wipe1, q_back0, q_back1, q_lend0, q_unlend0, q_lend1, q_lend2, q_unlend1, q_unlend2, q_un, q_lends_o, q_lends_d, q_lends_l, cTurn, cTurn3, cTurn4, List.getD_cons_succ, List.getD_cons_zero, Option.map_none, q_tup0, q_lst0, q_tup1, q_lst1, q_tup2, q_lst2, q_tup3, q_lst3, q_tup4, q_lst4, q_tup5, q_lst5, q_tup6, q_lst6, q_tup7, q_lst7, q_tup8, q_lst8, q_tup9, q_lst9, q_tup10, q_lst10, q_tup11, q_lst11, q_tup12, q_lst12, le_lim0, lt_lim0, le_lim1, lt_lim1, le_lim2, lt_lim2, le_lim3, lt_lim3, le_lim4, lt_lim4, le_lim5, lt_lim5, le_lim6, lt_lim6, le_lim7, lt_lim7, le_lim8, lt_lim8, le_lim9, lt_lim9, le_lim10, lt_lim10, le_lim11, lt_lim11, le_lim12, lt_lim12, le_lim13, lt_lim13, le_lim14, lt_lim14, le_lim15, lt_lim15, le_lim16, lt_lim16, le_lim17, lt_lim17, le_lim18, lt_lim18, le_lim19, lt_lim19, le_lim20, lt_lim20, decide_true, decide_false, eq_self, r_while, cW1, cW2, q_wT, q_wF, q_wn, ne_I, q_maxT, intsOf_map, cCh1, cCh2, cCh3, r_chain, q_ch1, q_ch2T, q_ch2F, q_ch4, q_addBI, q_subBI, q_addIB, q_subIB, q_strB, q_isnB, cZip, cZip2, cZip3, cZip4, r_zip, q_zipT, cLoop, cTurnC, r_forC, r_forN, q_lpn, q_lpc, q_lpb, q_lpr, q_eqD, q_neD, q_at4, q_at5, q_at6, q_at7, q_at8, lt2, gt2, cut_to, cut_from, cut_bt, isi_nt, eqv_T, eqv_L, eqv_S, eqvA_n, eqvA_c, eqvA_nc, eqvA_cn, eqv_I, List.take_succ_cons, List.take_zero, List.drop_succ_cons, List.drop_zero, isN_n, isN_b, isN_i, isN_s, isN_l, isN_t, isi_tt, isi_ll, isi_ii, isi_ss, isi_ib, isi_bi, isi_bb, tru_s, cRev, cMth2, cMth, cPuti2, cPuti1, cPuti, cAug, r_rev, r_mth, r_puti, r_killx, Int.reduceAdd, Int.reduceSub, Int.reduceMul, Int.reducePow, Int.reduceNeg, Int.reduceToNat, Int.reduceLT, Int.reduceLE, Int.reduceGT, Int.reduceGE, Int.reduceEq, Int.reduceDiv, Int.reduceMod, Nat.reduceMul, Nat.reduceLT, Nat.reduceLeDiff, Nat.reduceEqDiff, Int.toNat_natCast, r_aug, q_rng, q_rev, q_mth, q_zipL, q_puti1, q_puti2, q_puti3, q_puti4, q_aug, q_aug2, q_aug3, q_enumS, killE_n, killE_c, kKill_d, kKill_o, kKill_l, kKill_n, kKill_c, q_addS, q_ltT, q_gtT, q_revL, q_revT, q_lenS, q_intI, q_intB, q_augI, q_augSub, q_augT, q_slT, q_slL, List.take_length, not_true_eq_false, not_false_eq_true, Bool.false_and, Bool.and_false, Bool.or_true, Bool.true_or, Bool.or_false, Bool.false_or, ite_true, ite_false, if_true, if_false, cond_true, cond_false, Bool.false_eq_true, upTo_len, q_repL, q_repT1, q_repT, Option.some.injEq, Bool.not_eq_true, Bool.decide_eq_true, q_range1, q_range2, $xs,*])
open Hlp Rng Kin Frc Prs Drw Frx Prx Pcs K10t K10u K10v K10w K10y
open Fra (Fq)
/-! the law -/
structure Fd10 (ds : Nat → Option Df) : Prop where
  Q : Dw ds
  P : Px ds
  G : Hx ds
  h70 : ds 70 = some Drw.f70
  h71 : ds 71 = some Drw.f71
  h91 : ds 91 = some f91
  h101 : ds 101 = some f101
  h103 : ds 103 = some f103
  h104 : ds 104 = some f104
  h105 : ds 105 = some f105
  h106 : ds 106 = some f106
  h108 : ds 108 = some f108
/-- a fraction of the row -/
def Ok (d : D) : Prop := ∃ p : Q, d = fr p ∧ Fq p ∧ Sm 20 p
/-- the row of eight -/
structure Row8 (L : List D) : Prop where
  l : L.length = 8
  ok : ∀ d ∈ L, Ok d
theorem Row8.at (h : Row8 L) {i : Nat} (hi : i < 8) : ∃ p : Q, L2.atI L (i : Int) = some (fr p) ∧ Fq p ∧ Sm 20 p := by
  have hi2 : i < L.length := by rw [h.l]; exact hi
  obtain ⟨p, e, a, b⟩ := h.ok L[i] (List.getElem_mem hi2)
  exact ⟨p, by rw [q_atN hi2, e], a, b⟩
theorem Row8.last (h : Row8 L) : ∃ p : Q, L2.atI L (-1) = some (fr p) ∧ Fq p ∧ Sm 20 p := by
  have hl := h.l
  match L, hl with
  | [a, b, c, d, e, f, g, x], _ =>
    obtain ⟨p, e1, h1, h2⟩ := h.ok x (by simp)
    exact ⟨p, by rw [← e1]; rfl, h1, h2⟩
theorem row_draw {ds : Nat → Option Df} (F : Fd10 ds) {fuel k n : Nat} {st : Sto} {x0 : D} (hf : Fu fuel) (hfe : Fe n st) (hn : n ≤ 1000) :
    ∃ (L : List D) (n' : Nat) (st' : Sto), Row8 L ∧ Fe n' st' ∧ n' ≤ n + 30 ∧ exs ⟨callN ds fuel (k + 6), fuel⟩ f109_22 ⟨[.dat x0, .loc 0, .non, .non, .non, .non, .non, .non], st⟩ = exs ⟨callN ds fuel (k + 6), fuel⟩ f109_18 ⟨[.non, .loc 0, .own L, .non, .non, .non, .non, .non], st'⟩ := by
  have cm := compL_st (f := turnF ⟨callN ds fuel (k + 6), fuel⟩ (.nm 3) [3] .nil (.call 70 (.cons (.var 1) .nil) .nil [.inl 0])) (env := [.dat x0, .loc 0, .non, .non, .non, .non, .non, .non]) (P := fun d => ∃ p : Q, d = fr p ∧ Fq p ∧ p.1 ≤ 100 ∧ p.2 ≤ 100) (Q := fun i st => ∃ n', Fe n' st ∧ n' ≤ n + 4 * i) (xs := upTo 0 5) (acc := []) (i := 0) (st := st) ⟨n, hfe, Nat.le_refl _⟩ (fun x mx i st hi ⟨n', q, hn'⟩ => by
    rw [upTo_len] at hi
    obtain ⟨a, b, n2, st2, hab, f2, l2, e2⟩ := fraction_draw F.Q F.h70 (fuel := fuel) (k := k + 4) q (by omega)
    replace e2 : callN ds fuel (k + 6) 70 [.loc 0] st = .ok (.dat (fr (a, b))) st2 := e2
    refine ⟨fr (a, b), st2, ?_, ⟨(a, b), rfl, ⟨hab.2.1, hab.2.2.2⟩, hab.1, hab.2.2.1⟩, n2, f2, by omega⟩
    obtain ⟨j, hj, rfl⟩ := List.mem_iff_getElem.mp mx
    generalize (upTo 0 5)[j] = x at *
    generalize fr (a, b) = Z at *
    push_cast [e2]) (by rw [upTo_len, List.length_nil, lim_eq]; decide) (by simp)
  obtain ⟨ys, s1, e1, l1, p1, n1, f1, hn1⟩ := cm
  rw [upTo_len, List.length_nil, Nat.zero_add] at l1
  rw [upTo_len, Nat.zero_add] at hn1
  match ys, l1 with
  | [y0, y1, y2, y3, y4], _ =>
    obtain ⟨p0, rfl, g0, a0, b0⟩ := p1 y0 (by simp)
    obtain ⟨p1', rfl, g1, a1, b1⟩ := p1 y1 (by simp)
    obtain ⟨p2, rfl, g2, a2, b2⟩ := p1 y2 (by simp)
    obtain ⟨p3, rfl, g3, a3, b3⟩ := p1 y3 (by simp)
    obtain ⟨p4, rfl, g4, a4, b4⟩ := p1 y4 (by simp)
    have sm7 : ∀ p : Q, p.1 ≤ 100 → p.2 ≤ 100 → Sm 7 p := fun p h1 h2 => ⟨by omega, by omega⟩
    have e2 := added_run F.P.toFx (k := k + 3) (st := s1) hf (sm7 p0 a0 b0) (sm7 p1' a1 b1) (by decide) g0.d g1.d
    have e3 := times_run F.P.toFx (k := k + 3) (st := s1) hf (sm7 p2 a2 b2) (sm7 p3 a3 b3) (by decide) g2.d g3.d
    obtain ⟨r1, s2, c1, f2, e4⟩ := draw_run F.Q (fuel := fuel) (k := k + 5) (many := 1000000) f1 (by omega) (by decide) (by decide)
    obtain ⟨r2, s3, c2, f3, e5⟩ := draw_run F.Q (fuel := fuel) (k := k + 5) (many := 1000000) f2 (by omega) (by decide) (by decide)
    have e6 := ratio_run F.P.toFx (k := k + 4) (a := r1) (b := 1 + r2) (st := s3) hf (by omega) (Nat.lt_of_lt_of_le (show 1 + r2 < 2 ^ 20 by omega) (Nat.pow_le_pow_right (by decide) (by decide)))
    rw [Int.natCast_add] at e6
    replace e6 : callN ds fuel (k + 6) 85 [.dat (.int r1), .dat (.int (1 + (r2 : Int)))] s3 = _ := e6
    refine ⟨[fr p0, fr p1', fr p2, fr p3, fr p4, fr (Fra.add p0 p1'), fr (Fra.mul p2 p3), fr (Fra.rat r1 (1 + r2))], _, s3, ⟨rfl, ?_⟩, f3, by omega, ?_⟩
    · intro d md
      simp only [List.mem_cons, List.not_mem_nil, or_false] at md
      have s20 : ∀ p : Q, p.1 ≤ 100 → p.2 ≤ 100 → Sm 20 p := fun p h1 h2 => (sm7 p h1 h2).mono (by decide)
      rcases md with rfl | rfl | rfl | rfl | rfl | rfl | rfl | rfl
      · exact ⟨_, rfl, g0, s20 _ a0 b0⟩
      · exact ⟨_, rfl, g1, s20 _ a1 b1⟩
      · exact ⟨_, rfl, g2, s20 _ a2 b2⟩
      · exact ⟨_, rfl, g3, s20 _ a3 b3⟩
      · exact ⟨_, rfl, g4, s20 _ a4 b4⟩
      · exact ⟨_, rfl, g0.add g1, Sm.add (sm7 p0 a0 b0) (sm7 p1' a1 b1) (by decide)⟩
      · exact ⟨_, rfl, g2.mul g3, Sm.mul (sm7 p2 a2 b2) (sm7 p3 a3 b3) (by decide)⟩
      · exact ⟨_, rfl, .rat (by omega), Sm.rat (by omega) (by omega)⟩
    · have rl : (upTo 0 5).length ≤ lim := by rw [upTo_len]; exact lim_le (by decide)
      unfold f109_22 f109_21 f109_20 f109_19
      generalize f109_18 = b
      generalize fr (Fra.rat r1 (1 + r2)) = X7 at *
      generalize fr (Fra.add p0 p1') = X5 at *
      generalize fr (Fra.mul p2 p3) = X6 at *
      generalize fr p0 = X0 at *
      generalize fr p1' = X1 at *
      generalize fr p2 = X2 at *
      generalize fr p3 = X3 at *
      generalize fr p4 = X4 at *
      push_cast [e1, rl, e2, e3, e4, e5, e6, show Int.toNat 6 = 6 from rfl, show (10 : Int) ^ (6 : Nat) = 1000000 from rfl]
theorem in_turn {ds : Nat → Option Df} (F : Fd10 ds) {fuel k i j : Nat} {st : Sto} {L : List D} (hf : Fu fuel) (hL : Row8 L) (hi : i < 8) (hj : j < 8) :
    (kSetT ⟨[.non, .loc 0, .own L, .non, .dat (.int i), .non, .non, .non], st⟩ (setT (.nm 5) (.int j) ⟨[.non, .loc 0, .own L, .non, .dat (.int i), .non, .non, .non], st⟩)).bind (cTurnL (exs ⟨callN ds fuel (k + 6), fuel⟩ f109_15)) = .ok .next ⟨[.non, .loc 0, .own L, .non, .dat (.int i), .non, .non, .non], st⟩ := by
  obtain ⟨p, a1, g1, s1⟩ := hL.at hi
  obtain ⟨q, a2, g2, s2⟩ := hL.at hj
  obtain ⟨r, a3, g3, s3⟩ := hL.at (i := (i + j + 3) % 8) (Nat.mod_lt _ (by decide))
  have em : ((((i + j + 3) % 8 : Nat)) : Int) = ((i : Int) + (j : Int) + 3) % 8 := by omega
  rw [em] at a3
  have e1 := two_run F.P.toFx F.h108 (k := k + 1) (st := st) hf g1 g2 s1 s2
  have e2 := three_run F.P.toFx F.h103 (k := k + 2) (st := st) hf g1 g2 g3 s1 s2 s3
  generalize fr p = P at *
  generalize fr q = R at *
  generalize fr r = T at *
  push_cast [cTurnL, a1, a2, a3, e1, e2]
theorem in_loop {ds : Nat → Option Df} (F : Fd10 ds) {fuel k i : Nat} {st : Sto} {L : List D} (hf : Fu fuel) (hL : Row8 L) (hi : i < 8) :
    forL (.nm 5) (exs ⟨callN ds fuel (k + 6), fuel⟩ f109_15) (upTo 0 8) ⟨[.non, .loc 0, .own L, .non, .dat (.int i), .non, .non, .non], st⟩ = .ok .next ⟨[.non, .loc 0, .own L, .non, .dat (.int i), .non, .non, .non], st⟩ := by
  obtain ⟨s', le, es⟩ := forL_inv (t := .nm 5) (f := exs ⟨callN ds fuel (k + 6), fuel⟩ f109_15) (xs := upTo 0 8) (s := ⟨[.non, .loc 0, .own L, .non, .dat (.int i), .non, .non, .non], st⟩)
    (fun _ z => z = ⟨[.non, .loc 0, .own L, .non, .dat (.int i), .non, .non, .non], st⟩) rfl fun j x z hj es => by
      obtain ⟨hlt, rfl⟩ := upTo_get _ _ _ _ hj
      subst es
      refine ⟨_, .inl ?_, rfl⟩
      rw [Int.zero_add]
      exact in_turn F hf hL hi hlt
  rw [le, es]
theorem out_turn {ds : Nat → Option Df} (F : Fd10 ds) {fuel k i n : Nat} {st : Sto} {L : List D} (hf : Fu fuel) (hL : Row8 L) (hi : i < 8) (hfe : Fe n st) (hn : n ≤ 1000) :
    ∃ st', Fe (n + 2) st' ∧ (kSetT ⟨[.non, .loc 0, .own L, .non, .non, .non, .non, .non], st⟩ (setT (.nm 4) (.int i) ⟨[.non, .loc 0, .own L, .non, .non, .non, .non, .non], st⟩)).bind (cTurnL (exs ⟨callN ds fuel (k + 6), fuel⟩ f109_17)) = .ok .next ⟨[.non, .loc 0, .own L, .non, .non, .non, .non, .non], st'⟩ := by
  have lp := in_loop F (k := k) (i := i) (st := st) hf hL hi
  obtain ⟨p, a1, g1, s1⟩ := hL.at hi
  have hlen := hL.l
  have : ∃ q : Q, L2.atI L ((i : Int) - 1) = some (fr q) ∧ Fq q ∧ Sm 20 q := by
    by_cases c : i = 0
    · subst c; exact hL.last
    · have e : (i : Int) - 1 = ((i - 1 : Nat) : Int) := by omega
      rw [e]; exact hL.at (by omega)
  obtain ⟨q, a2, g2, s2⟩ := this
  obtain ⟨st', f', e⟩ := times_right F.Q F.P F.h101 F.h106 (k := k + 1) (st := st) hf g1 g2 s1 s2 hfe (by omega)
  replace e : callN ds fuel (k + 6) 106 _ st = _ := e
  refine ⟨st', f', ?_⟩
  generalize fr p = P at *
  generalize fr q = R at *
  push_cast [cTurnL, lp, a1, a2, e]
theorem out_loop {ds : Nat → Option Df} (F : Fd10 ds) {fuel k n : Nat} {st : Sto} {L : List D} (hf : Fu fuel) (hL : Row8 L) (hfe : Fe n st) (hn : n ≤ 900) :
    ∃ st', Fe (n + 16) st' ∧ forL (.nm 4) (exs ⟨callN ds fuel (k + 6), fuel⟩ f109_17) (upTo 0 8) ⟨[.non, .loc 0, .own L, .non, .non, .non, .non, .non], st⟩ = .ok .next ⟨[.non, .loc 0, .own L, .non, .non, .non, .non, .non], st'⟩ := by
  obtain ⟨s', le, st', f', es⟩ := forL_inv (t := .nm 4) (f := exs ⟨callN ds fuel (k + 6), fuel⟩ f109_17) (xs := upTo 0 8) (s := ⟨[.non, .loc 0, .own L, .non, .non, .non, .non, .non], st⟩)
    (fun i z => ∃ st', Fe (n + 2 * i) st' ∧ z = ⟨[.non, .loc 0, .own L, .non, .non, .non, .non, .non], st'⟩) ⟨st, hfe, rfl⟩ fun j x z hj ⟨st', f', es⟩ => by
      obtain ⟨hlt, rfl⟩ := upTo_get _ _ _ _ hj
      subst es
      obtain ⟨s2, f2, e2⟩ := out_turn F (k := k) (i := j) hf hL hlt f' (by omega)
      rw [Int.zero_add]
      exact ⟨_, .inl e2, s2, f2, rfl⟩
  rw [upTo_len] at f'
  subst es
  exact ⟨st', f', le⟩
theorem last_turn {ds : Nat → Option Df} (F : Fd10 ds) {fuel k i n : Nat} {st : Sto} {e3 : EV} (hf : Fu fuel) (h3 : e3 = .non ∨ ∃ d, e3 = .dat d) (hfe : Fe n st) (hn : n ≤ 1000) :
    ∃ st', Fe (n + 6) st' ∧ (kSetT ⟨[.non, .loc 0, .non, e3, .non, .non, .non, .non], st⟩ (setT (.nm 3) (.int i) ⟨[.non, .loc 0, .non, e3, .non, .non, .non, .non], st⟩)).bind (cTurnL (exs ⟨callN ds fuel (k + 6), fuel⟩ f109_6)) = .ok .next ⟨[.non, .loc 0, .non, .dat (.int i), .non, .non, .non, .non], st'⟩ := by
  obtain ⟨a, r, m, s1, hp, f1, e1⟩ := purse_draw2 F.Q F.h71 (fuel := fuel) (k := k + 4) hfe (by omega)
  have P := pd_of hp
  obtain ⟨x, s2, c2, f2, e2⟩ := draw_run F.Q (fuel := fuel) (k := k + 5) (many := 20) f1 (by omega) (by decide) (by decide)
  obtain ⟨y, s3, c3, f3, e3'⟩ := draw_run F.Q (fuel := fuel) (k := k + 5) (many := 20) f2 (by omega) (by decide) (by decide)
  have e4 := purse_right F.P F.h91 F.h104 (k := k + 1) (f := x) (s := y) (st := s3) hf P (by omega) (by omega)
  obtain ⟨z, s4, c4, f4, e5⟩ := draw_run F.Q (fuel := fuel) (k := k + 5) (many := 9) f3 (by omega) (by decide) (by decide)
  have e6 := half_right F.P F.G F.h105 (k := k) (t := z) (st := s4) hf P (by omega)
  refine ⟨s4, f4, ?_⟩
  generalize pu a r m = P0 at *
  rcases h3 with rfl | ⟨d, rfl⟩
  · push_cast [cTurnL, e1, e2, e3', e4, e5, e6]
  · push_cast [cTurnL, e1, e2, e3', e4, e5, e6]
theorem last_loop {ds : Nat → Option Df} (F : Fd10 ds) {fuel k n : Nat} {st : Sto} (hf : Fu fuel) (hfe : Fe n st) (hn : n ≤ 900) :
    ∃ e3 st', Fe (n + 36) st' ∧ (e3 = .non ∨ ∃ d, e3 = .dat d) ∧ forL (.nm 3) (exs ⟨callN ds fuel (k + 6), fuel⟩ f109_6) (upTo 0 6) ⟨[.non, .loc 0, .non, .non, .non, .non, .non, .non], st⟩ = .ok .next ⟨[.non, .loc 0, .non, e3, .non, .non, .non, .non], st'⟩ := by
  obtain ⟨s', le, e3, st', f', h3, es⟩ := forL_inv (t := .nm 3) (f := exs ⟨callN ds fuel (k + 6), fuel⟩ f109_6) (xs := upTo 0 6) (s := ⟨[.non, .loc 0, .non, .non, .non, .non, .non, .non], st⟩)
    (fun i z => ∃ e3 st', Fe (n + 6 * i) st' ∧ (e3 = .non ∨ ∃ d, e3 = .dat d) ∧ z = ⟨[.non, .loc 0, .non, e3, .non, .non, .non, .non], st'⟩) ⟨.non, st, hfe, .inl rfl, rfl⟩ fun j x z hj ⟨e3, st', f', h3, es⟩ => by
      obtain ⟨hlt, rfl⟩ := upTo_get _ _ _ _ hj
      subst es
      obtain ⟨s2, f2, e2⟩ := last_turn F (k := k) (i := j) (e3 := e3) hf h3 f' (by omega)
      rw [Int.zero_add]
      exact ⟨_, .inl e2, .dat (.int j), s2, f2, .inr ⟨_, rfl⟩, rfl⟩
  rw [upTo_len] at f'
  subst es
  exact ⟨e3, st', f', h3, le⟩
end K10z0
end
section
set_option Elab.async false
set_option linter.all false
set_option maxRecDepth 20000
open PySem L2 Pur
namespace K10
local macro_rules | `(tactic| push_cast [$xs,*]) => `(tactic| simp (implicitDefEqProofs := false) (disch := (first | assumption | exact ⟨rfl, by decide⟩ | exact okI_of (by omega) | exact mulOk_64 (by omega) (by omega) | exact fdiv_64 (by omega) (by omega) | (simp only [lim_eq, List.length_append, List.length_map, List.length_cons, List.length_nil, List.length_reverse, List.length_take, List.length_drop, List.length_replicate, List.length_range, upTo_len, enumD_len, zipD_len]; omega) | omega | (simp only [shp_sh, sh_n, sh_b, sh_i, sh_s, sh_T, sh_L, sh_ints, List.all_cons, List.all_nil, List.all_append, Bool.and_self, Bool.and_true]; first | done | decide))) only [cTst, cNeg, cNt, cAnd, cOr, cBin2, cBin, cCmp2, cCmp, cIte, cTup, cLst, cSub2, cSub, cSl3, cSl2, cSl, cCall2, cCall, cBi, cIsi, cDict, cComp, cTs, cO, cSeq, cRange, cEnum, cDs3, cDs2, cDs, cKs3, cKs2, cKs, cRs, cPs2, cPs, cNext, cAsg, cPar, cSetRs, cPut4, cPut3, cPut2, cPut, cRet, cIf, cSeqS, cFor, cSetSlot, cApp2, cApp, cExt, cComp7, r_tst, r_neg, r_nt, r_and, r_or, r_bin, r_cmp, r_ite, r_tup, r_lst, r_sub, r_slice, r_call, r_bi, r_isi, r_dict, r_comp, r_Ts, r_yes, r_seq, r_range, r_enum, r_Ds, r_Ks, r_Rs, r_Ps, r_seqS, r_asg, r_par, r_put, r_expr, r_ret, r_ifs, r_for, r_setRs, r_setSlot, r_app, r_ext, r_kcomp, q_var_d, q_var_o, q_var_l, q_var_n, q_tst, q_neg, q_andT, q_andF, q_orT, q_orF, q_bin, q_cmp, q_of, q_subL, q_look, q_subD, q_subF, q_subS, q_sub2, q_sl, q_call, q_up, q_bi, q_isi, q_iteT, q_iteF, q_tsT, q_tsF, q_seq, q_lendD, q_lendF, q_lendS, q_enumT, q_enumL, q_o, q_app, q_ext, q_esc_o, q_escD_o, q_res_o, q_res_l, q_res_d, q_nx, q_rt, q_bk, q_ct, q_ifT, q_ifF, q_put, q_putS, q_putOk, q_P_f, q_P_d, q_P_l, q_P_s, q_set, q_setT, q_setS, q_setTs, q_fr_d, q_fr_o, q_fr_n, q_fr_l, q_lo_d, q_lo_n, q_lo_l, q_tru_b, q_tru_i, q_tru_t, q_tru_l, q_tru_n, q_add, q_sub, q_mul, q_fdiv, q_mod, q_pow, q_addL, q_addT, q_lt, q_le, q_gt, q_ge, q_eqS, q_neS, q_eqI, q_isN, q_isnN, q_isB, q_tsub, q_lsub, q_lenL, q_lenT, q_tupL, q_tupT, q_lstL, q_lstT, q_repr, q_max, q_min, q_kI, q_kS, q_sqL, q_sqT, q_evD, q_evL, q_argN, q_argC, q_arg, q_argD, q_at0, q_at1, q_at2, q_at3, q_run, q_finD, q_finF, q_finN, q_finS, q_finO, q_finL, evTs_nil, evO_no, evDs_nil, evKs_nil, evRs_nil, evPs_nil, exs_nil, ex_retN, ex_pass, ex_brk, ex_cont, ev_var, ev_lit, ev_glob, ev_app, ev_ext, esc_dat, esc_fresh, esc_loc, esc_slot, escD_dat, escD_fresh, escD_slot, res_dat, res_fresh, res_slot, setR_dat, setR_fresh, setR_loc, setR_tup, setT_nm, setT_tup, setTs_nil, setTs_cons, setRs_nil2, freeAt_eq, looseAt_eq, O.bind_ok, List.mapM_cons, List.mapM_nil, Option.bind_eq_bind, Option.bind_some, Option.pure_def, Option.map_some, List.getElem?_cons_succ, List.getElem?_cons_zero, List.length_cons, List.length_nil, Nat.reduceAdd, Nat.reduceSub, Nat.le_refl, and_self, List.replicate_succ, List.replicate_zero, List.append_nil, List.cons_append, List.nil_append, List.set_cons_succ, List.set_cons_zero, List.all_cons, List.all_nil, Bool.and_true, Bool.true_and, Bool.not_true, Bool.not_false, Nat.sub_self, List.append_assoc, RV.weak, r_turn, q_turn, q_turnT, q_turnF, q_wipe0, q_wipe1, q_back0, q_back1, q_lend0, q_unlend0, q_lend1, q_lend2, q_unlend1, q_unlend2, q_un, q_lends_o, q_lends_d, q_lends_l, cTurn, cTurn3, cTurn4, List.getD_cons_succ, List.getD_cons_zero, Option.map_none, q_tup0, q_lst0, q_tup1, q_lst1, q_tup2, q_lst2, q_tup3, q_lst3, q_tup4, q_lst4, q_tup5, q_lst5, q_tup6, q_lst6, q_tup7, q_lst7, q_tup8, q_lst8, q_tup9, q_lst9, q_tup10, q_lst10, q_tup11, q_lst11, q_tup12, q_lst12, le_lim0, lt_lim0, le_lim1, lt_lim1, le_lim2, lt_lim2, le_lim3, lt_lim3, le_lim4, lt_lim4, le_lim5, lt_lim5, le_lim6, lt_lim6, le_lim7, lt_lim7, le_lim8, lt_lim8, le_lim9, lt_lim9, le_lim10, lt_lim10, le_lim11, lt_lim11, le_lim12, lt_lim12, le_lim13, lt_lim13, le_lim14, lt_lim14, le_lim15, lt_lim15, le_lim16, lt_lim16, le_lim17, lt_lim17, le_lim18, lt_lim18, le_lim19, lt_lim19, le_lim20, lt_lim20, decide_true, decide_false, eq_self, r_while, cW1, cW2, q_wT, q_wF, q_wn, ne_I, q_maxT, intsOf_map, cCh1, cCh2, cCh3, r_chain, q_ch1, q_ch2T, q_ch2F, q_ch4, q_addBI, q_subBI, q_addIB, q_subIB, q_strB, q_isnB, cZip, cZip2, cZip3, cZip4, r_zip, q_zipT, cLoop, cTurnC, r_forC, r_forN, q_lpn, q_lpc, q_lpb, q_lpr, q_eqD, q_neD, q_at4, q_at5, q_at6, q_at7, q_at8, lt2, gt2, cut_to, cut_from, cut_bt, isi_nt, eqv_T, eqv_L, eqv_S, eqvA_n, eqvA_c, eqvA_nc, eqvA_cn, eqv_I, List.take_succ_cons, List.take_zero, List.drop_succ_cons, List.drop_zero, isN_n, isN_b, isN_i, isN_s, isN_l, isN_t, isi_tt, isi_ll, isi_ii, isi_ss, isi_ib, isi_bi, isi_bb, tru_s, cRev, cMth2, cMth, cPuti2, cPuti1, cPuti, cAug, r_rev, r_mth, r_puti, r_killx, Int.reduceAdd, Int.reduceSub, Int.reduceMul, Int.reducePow, Int.reduceNeg, Int.reduceToNat, Int.reduceLT, Int.reduceLE, Int.reduceGT, Int.reduceGE, Int.reduceEq, Int.reduceDiv, Int.reduceMod, Nat.reduceMul, Nat.reduceLT, Nat.reduceLeDiff, Nat.reduceEqDiff, Int.toNat_natCast, r_aug, q_rng, q_rev, q_mth, q_zipL, q_puti1, q_puti2, q_puti3, q_puti4, q_aug, q_aug2, q_aug3, q_enumS, killE_n, killE_c, kKill_d, kKill_o, kKill_l, kKill_n, kKill_c, q_addS, q_ltT, q_gtT, q_revL, q_revT, q_lenS, q_intI, q_intB, q_augI, q_augSub, q_augT, q_slT, q_slL, List.take_length, not_true_eq_false, not_false_eq_true, Bool.false_and, Bool.and_false, Bool.or_true, Bool.true_or, Bool.or_false, Bool.false_or, ite_true, ite_false, if_true, if_false, cond_true, cond_false, Bool.false_eq_true, upTo_len, q_repL, q_repT1, q_repT, Option.some.injEq, Bool.not_eq_true, Bool.decide_eq_true, q_range1, q_range2, $xs,*])
open Hlp Rng Kin Frc Prs Drw Frx Prx Pcs K10t K10u K10v K10w K10y K10z0 PySem.Spec
open Fra (Fq)
def top (i : Nat) : Stmt := PySem.Challenge.pw_cardrings_k10_whole_fractions_to_purses.main.body.getD i (.Pass ⟨0, 0, 0, 0⟩)
abbrev dr : Dr := ⟨31, 1000000289, 110017, 79, 2147483579, 2976221, 67, 2147483549, 57, 2147483543⟩
def t27 : FnT := ⟨"is_number", ["thing"], top 6, f27, [(1, [], [.inl 0])]⟩
def t28 : FnT := ⟨"are_numbers", ["thing", "one"], top 7, f28, [(1, [], [.inl 0])]⟩
def t66 : FnT := ⟨"common", ["one", "other"], top 9, f66, [(2, [], [.inl 0, .inl 1])]⟩
def t67 : FnT := ⟨"is_fraction", ["thing"], top 10, f67, [(1, [], [.inl 0])]⟩
def t85 : FnT := ⟨"ratio", ["over", "under", "by"], top 11, f85, [(2, [], [.inl 0, .inl 1])]⟩
def t86 : FnT := ⟨"added", ["one", "other"], top 12, f86, [(2, [], [.inl 0, .inl 1])]⟩
def t87 : FnT := ⟨"times", ["one", "other"], top 13, f87, [(2, [], [.inl 0, .inl 1])]⟩
def t68 : FnT := ⟨"is_less", ["one", "other"], top 14, f68, [(2, [], [.inl 0, .inl 1])]⟩
def t88 : FnT := ⟨"left_of", ["one", "other"], top 15, f88, [(2, [], [.inl 0, .inl 1])]⟩
def t89 : FnT := ⟨"lesser", ["one", "other"], top 16, f89, [(2, [], [.inl 0, .inl 1])]⟩
def t69 : FnT := ⟨"is_purse", ["thing", "one", "has", "rate", "most"], top 20, f69, [(1, [], [.inl 0])]⟩
def t90 : FnT := ⟨"has_whole", ["purse"], top 21, f90, [(1, [], [.inl 0])]⟩
def t91 : FnT := ⟨"paid", ["purse"], top 22, f91, [(1, [], [.inl 0])]⟩
def t92 : FnT := ⟨"purse_filled", ["purse", "ticks", "has", "rate", "most"], top 23, f92, [(1, [], [.inl 0, .inr (.int 1)]), (1, ["ticks"], [.inl 0, .inl 1])]⟩
def t93 : FnT := ⟨"ticks_till", ["purse", "lacks", "rate"], top 24, f93, [(1, [], [.inl 0])]⟩
def t31 : FnT := ⟨"void_ring", ["size"], top 27, f31, [(1, [], [.inl 0])]⟩
def t94 : FnT := ⟨"void_lane", ["size"], top 36, f94, [(1, [], [.inl 0])]⟩
def t95 : FnT := ⟨"half_of", ["half", "purse", "lanes", "size", "k"], top 37, f95, [(1, ["purse"], [.inl 0, .inl 1, .inr (.int 2), .inr (.int 4)])]⟩
def t96 : FnT := ⟨"turned_at", ["thing", "at", "newer"], top 38, f96, [(3, [], [.inl 0, .inl 1, .inl 2])]⟩
def t97 : FnT := ⟨"lane_turned", ["value", "lane", "at", "newer", "lanes"], top 39, f97, [(4, [], [.inl 0, .inl 1, .inl 2, .inl 3])]⟩
def t21 : FnT := ⟨"void_memory", ["pages"], top 41, f21, [(1, [], [.inl 0])]⟩
def t98 : FnT := ⟨"is_due", ["lane", "clock", "bounds", "many", "since", "masked", "most", "wait"], top 45, f98, [(3, [], [.inl 0, .inl 1, .inl 2])]⟩
def t99 : FnT := ⟨"look_at_lane", ["value", "lane", "clock", "bounds", "own"], top 47, f99, [(4, [], [.inl 0, .inl 1, .inl 2, .inl 3])]⟩
def t100 : FnT := ⟨"ticked", ["value", "memory", "clock", "most", "wait", "later", "events", "lane", "more"], top 48, f100, [(2, ["clock"], [.inl 0, .inl 1, .inl 2, .inr (.int 2), .inr (.int 4)])]⟩
def t101 : FnT := ⟨"time_at", ["clock", "drift"], top 51, f101, [(1, [], [.inl 0, .inr (.tuple [(.int 1), (.int 1)])]), (1, ["drift"], [.inl 0, .inl 1])]⟩
def t8 : FnT := ⟨"_law_feed", ["_law_script"], top 53, f8, [(1, [], [.inl 0])]⟩
def t0 : FnT := ⟨"_law_draw", ["_law_feed_here", "_law_many", "_law_figure", "_law_at", "_law_cell", "_law_mixed"], top 54, ⟨2, 6, drawB dr⟩, [(2, [], [.inl 0, .inl 1])]⟩
def t70 : FnT := ⟨"_law_fraction", ["_law_feed_here", "_law_over", "_law_under", "_law_by"], top 55, f70, [(1, [], [.inl 0])]⟩
def t71 : FnT := ⟨"_law_purse", ["_law_feed_here", "_law_most", "_law_rate"], top 56, f71, [(1, [], [.inl 0])]⟩
def t108 : FnT := ⟨"_law_two_right", ["_law_one", "_law_other", "_law_whole"], top 57, f108, [(2, [], [.inl 0, .inl 1])]⟩
def t103 : FnT := ⟨"_law_three_right", ["_law_one", "_law_other", "_law_third"], top 58, f103, [(3, [], [.inl 0, .inl 1, .inl 2])]⟩
def t104 : FnT := ⟨"_law_purse_right", ["_law_shutet", "_law_first", "_law_second", "_law_has", "_law_rate", "_law_most", "_law_whole", "_law_both", "_law_here", "_law_k", "_law_till"], top 59, f104, [(3, [], [.inl 0, .inl 1, .inl 2])]⟩
def t105 : FnT := ⟨"_law_half_right", ["_law_shutet", "_law_ticks_now", "_law_value", "_law_land", "_law_k", "_law_events"], top 60, f105, [(2, [], [.inl 0, .inl 1])]⟩
def t106 : FnT := ⟨"_law_times_right", ["_law_feed_here", "_law_one", "_law_other", "_law_count_at", "_law_more", "_law_here"], top 61, f106, [(3, [], [.inl 0, .inl 1, .inl 2])]⟩
def t109 : FnT := ⟨"law", ["_law_script", "_law_feed_here", "_law_some", "_law_k", "_law_i", "_law_j", "_law_third", "_law_shutet"], top 62, f109, [(1, [], [.inl 0])]⟩
def tab : Tab := [(27, t27), (28, t28), (66, t66), (67, t67), (85, t85), (86, t86), (87, t87), (68, t68), (88, t88), (89, t89), (69, t69), (90, t90), (91, t91), (92, t92), (93, t93), (31, t31), (94, t94), (95, t95), (96, t96), (97, t97), (21, t21), (98, t98), (99, t99), (100, t100), (101, t101), (8, t8), (0, t0), (70, t70), (71, t71), (108, t108), (103, t103), (104, t104), (105, t105), (106, t106), (109, t109)]
def bl : List Str := ["all", "bool", "int", "isinstance", "len", "list", "range", "tuple"]
def gl : List (Str × D) := [("BOX_AT", (.int 5)), ("HALF_AT", (.int 0)), ("LANES_AT", (.int 1)), ("MASKED_AT", (.int 7)), ("PURSE_AT", (.int 7)), ("SINCE_AT", (.int 6)), ("SPAN", (.int 8)), ("WHOLE", (.tuple [(.int 1), (.int 1)]))]
set_option maxRecDepth 100000
theorem ok27 : chkFn (fnNames tab) gl bl t27 = true := by decide +kernel
theorem ok28 : chkFn (fnNames tab) gl bl t28 = true := by decide +kernel
theorem ok66 : chkFn (fnNames tab) gl bl t66 = true := by decide +kernel
theorem ok67 : chkFn (fnNames tab) gl bl t67 = true := by decide +kernel
theorem ok85 : chkFn (fnNames tab) gl bl t85 = true := by decide +kernel
theorem ok86 : chkFn (fnNames tab) gl bl t86 = true := by decide +kernel
theorem ok87 : chkFn (fnNames tab) gl bl t87 = true := by decide +kernel
theorem ok68 : chkFn (fnNames tab) gl bl t68 = true := by decide +kernel
theorem ok88 : chkFn (fnNames tab) gl bl t88 = true := by decide +kernel
theorem ok89 : chkFn (fnNames tab) gl bl t89 = true := by decide +kernel
theorem ok69 : chkFn (fnNames tab) gl bl t69 = true := by decide +kernel
theorem ok90 : chkFn (fnNames tab) gl bl t90 = true := by decide +kernel
theorem ok91 : chkFn (fnNames tab) gl bl t91 = true := by decide +kernel
theorem ok92 : chkFn (fnNames tab) gl bl t92 = true := by decide +kernel
theorem ok93 : chkFn (fnNames tab) gl bl t93 = true := by decide +kernel
theorem ok31 : chkFn (fnNames tab) gl bl t31 = true := by decide +kernel
theorem ok94 : chkFn (fnNames tab) gl bl t94 = true := by decide +kernel
theorem ok95 : chkFn (fnNames tab) gl bl t95 = true := by decide +kernel
theorem ok96 : chkFn (fnNames tab) gl bl t96 = true := by decide +kernel
theorem ok97 : chkFn (fnNames tab) gl bl t97 = true := by decide +kernel
theorem ok21 : chkFn (fnNames tab) gl bl t21 = true := by decide +kernel
theorem ok98 : chkFn (fnNames tab) gl bl t98 = true := by decide +kernel
theorem ok99 : chkFn (fnNames tab) gl bl t99 = true := by decide +kernel
theorem ok100 : chkFn (fnNames tab) gl bl t100 = true := by decide +kernel
theorem ok101 : chkFn (fnNames tab) gl bl t101 = true := by decide +kernel
theorem ok8 : chkFn (fnNames tab) gl bl t8 = true := by decide +kernel
theorem ok0 : chkFn (fnNames tab) gl bl t0 = true := by decide +kernel
theorem ok70 : chkFn (fnNames tab) gl bl t70 = true := by decide +kernel
theorem ok71 : chkFn (fnNames tab) gl bl t71 = true := by decide +kernel
theorem ok108 : chkFn (fnNames tab) gl bl t108 = true := by decide +kernel
theorem ok103 : chkFn (fnNames tab) gl bl t103 = true := by decide +kernel
theorem ok104 : chkFn (fnNames tab) gl bl t104 = true := by decide +kernel
theorem ok105 : chkFn (fnNames tab) gl bl t105 = true := by decide +kernel
theorem ok106 : chkFn (fnNames tab) gl bl t106 = true := by decide +kernel
theorem ok109 : chkFn (fnNames tab) gl bl t109 = true := by decide +kernel
set_option maxHeartbeats 4000000 in
theorem tabOk {K : PySem.W.Frag} {mg : Str → Option Value} {h : Heap} (inK : K.In h) (G : h.Ns mainGlobals mg) {F27 F28 F66 F67 F85 F86 F87 F68 F88 F89 F69 F90 F91 F92 F93 F31 F94 F95 F96 F97 F21 F98 F99 F100 F101 F8 F0 F70 F71 F108 F103 F104 F105 F106 F109 D92 D95 D100 D101 add95_purse_0 add95_purse_1 add95_purse_2 add95_purse add101_drift adg7 : Addr} {oc27 kV27 dc27 pm27 cd27 ct27 oc28 kV28 dc28 pm28 cd28 ct28 oc66 kV66 dc66 pm66 cd66 ct66 oc67 kV67 dc67 pm67 cd67 ct67 oc85 kV85 dc85 pm85 cd85 ct85 oc86 kV86 dc86 pm86 cd86 ct86 oc87 kV87 dc87 pm87 cd87 ct87 oc68 kV68 dc68 pm68 cd68 ct68 oc88 kV88 dc88 pm88 cd88 ct88 oc89 kV89 dc89 pm89 cd89 ct89 oc69 kV69 dc69 pm69 cd69 ct69 oc90 kV90 dc90 pm90 cd90 ct90 oc91 kV91 dc91 pm91 cd91 ct91 oc92 dc92 pm92 cd92 ct92 oc93 kV93 dc93 pm93 cd93 ct93 oc31 kV31 dc31 pm31 cd31 ct31 oc94 kV94 dc94 pm94 cd94 ct94 oc95 dc95 pm95 cd95 ct95 oc96 kV96 dc96 pm96 cd96 ct96 oc97 kV97 dc97 pm97 cd97 ct97 oc21 kV21 dc21 pm21 cd21 ct21 oc98 kV98 dc98 pm98 cd98 ct98 oc99 kV99 dc99 pm99 cd99 ct99 oc100 dc100 pm100 cd100 ct100 oc101 dc101 pm101 cd101 ct101 oc8 kV8 dc8 pm8 cd8 ct8 oc0 kV0 dc0 pm0 cd0 ct0 oc70 kV70 dc70 pm70 cd70 ct70 oc71 kV71 dc71 pm71 cd71 ct71 oc108 kV108 dc108 pm108 cd108 ct108 oc103 kV103 dc103 pm103 cd103 ct103 oc104 kV104 dc104 pm104 cd104 ct104 oc105 kV105 dc105 pm105 cd105 ct105 oc106 kV106 dc106 pm106 cd106 ct106 oc109 kV109 dc109 pm109 cd109 ct109 : Value} {od27 an27 od28 an28 od66 an66 od67 an67 od85 an85 od86 an86 od87 an87 od68 an68 od88 an88 od89 an89 od69 an69 od90 an90 od91 an91 od92 an92 od93 an93 od31 an31 od94 an94 od95 an95 od96 an96 od97 an97 od21 an21 od98 an98 od99 an99 od100 an100 od101 an101 od8 an8 od0 an0 od70 an70 od71 an71 od108 an108 od103 an103 od104 an104 od105 an105 od106 an106 od109 an109 odd95_purse_0 odd95_purse_1 odd95_purse_2 odd95_purse odd101_drift odg7 : Option Addr} {sl27 sl28 sl66 sl67 sl85 sl86 sl87 sl68 sl88 sl89 sl69 sl90 sl91 sl92 sl93 sl31 sl94 sl95 sl96 sl97 sl21 sl98 sl99 sl100 sl101 sl8 sl0 sl70 sl71 sl108 sl103 sl104 sl105 sl106 sl109 vsd95_purse_0 vsd95_purse_1 vsd95_purse_2 vsd95_purse vsd101_drift vsg7 : Array (Option Value)} {tkd92_ticks tkd95_purse_0_0 tkd95_purse_0_1 tkd95_purse_1_0 tkd95_purse_1_1 tkd95_purse_2_0 tkd95_purse_2_1 tkd95_lanes tkd95_size tkd100_most tkd100_wait tkd101_drift_0 tkd101_drift_1 tkg0 tkg1 tkg2 tkg3 tkg4 tkg5 tkg6 tkg7_0 tkg7_1 : Tok} {nnd95_purse_0 nnd95_purse_1 nnd95_purse_2 nnd95_purse nnd101_drift nng7 : Nat}
    (a27 : PySem.W.nsIn K mainGlobals "is_number" = some (some (.ref F27))) (l27 : K.lookup F27 = some ⟨oc27, od27, .func (PySem.W.fnOf "is_number" "is_number" (C8.fnArgs (top 6)) (C8.fnBody (top 6)) (C8.fnScope (top 6)) .none kV27 dc27 pm27 an27 cd27 ct27), sl27⟩) (c27 : PySem.W.codeIn K cd27 "is_number" = true) (k27 : PySem.W.keepIn K (.ref F27) = true)
    (a28 : PySem.W.nsIn K mainGlobals "are_numbers" = some (some (.ref F28))) (l28 : K.lookup F28 = some ⟨oc28, od28, .func (PySem.W.fnOf "are_numbers" "are_numbers" (C8.fnArgs (top 7)) (C8.fnBody (top 7)) (C8.fnScope (top 7)) .none kV28 dc28 pm28 an28 cd28 ct28), sl28⟩) (c28 : PySem.W.codeIn K cd28 "are_numbers" = true) (k28 : PySem.W.keepIn K (.ref F28) = true)
    (a66 : PySem.W.nsIn K mainGlobals "common" = some (some (.ref F66))) (l66 : K.lookup F66 = some ⟨oc66, od66, .func (PySem.W.fnOf "common" "common" (C8.fnArgs (top 9)) (C8.fnBody (top 9)) (C8.fnScope (top 9)) .none kV66 dc66 pm66 an66 cd66 ct66), sl66⟩) (c66 : PySem.W.codeIn K cd66 "common" = true) (k66 : PySem.W.keepIn K (.ref F66) = true)
    (a67 : PySem.W.nsIn K mainGlobals "is_fraction" = some (some (.ref F67))) (l67 : K.lookup F67 = some ⟨oc67, od67, .func (PySem.W.fnOf "is_fraction" "is_fraction" (C8.fnArgs (top 10)) (C8.fnBody (top 10)) (C8.fnScope (top 10)) .none kV67 dc67 pm67 an67 cd67 ct67), sl67⟩) (c67 : PySem.W.codeIn K cd67 "is_fraction" = true) (k67 : PySem.W.keepIn K (.ref F67) = true)
    (a85 : PySem.W.nsIn K mainGlobals "ratio" = some (some (.ref F85))) (l85 : K.lookup F85 = some ⟨oc85, od85, .func (PySem.W.fnOf "ratio" "ratio" (C8.fnArgs (top 11)) (C8.fnBody (top 11)) (C8.fnScope (top 11)) .none kV85 dc85 pm85 an85 cd85 ct85), sl85⟩) (c85 : PySem.W.codeIn K cd85 "ratio" = true) (k85 : PySem.W.keepIn K (.ref F85) = true)
    (a86 : PySem.W.nsIn K mainGlobals "added" = some (some (.ref F86))) (l86 : K.lookup F86 = some ⟨oc86, od86, .func (PySem.W.fnOf "added" "added" (C8.fnArgs (top 12)) (C8.fnBody (top 12)) (C8.fnScope (top 12)) .none kV86 dc86 pm86 an86 cd86 ct86), sl86⟩) (c86 : PySem.W.codeIn K cd86 "added" = true) (k86 : PySem.W.keepIn K (.ref F86) = true)
    (a87 : PySem.W.nsIn K mainGlobals "times" = some (some (.ref F87))) (l87 : K.lookup F87 = some ⟨oc87, od87, .func (PySem.W.fnOf "times" "times" (C8.fnArgs (top 13)) (C8.fnBody (top 13)) (C8.fnScope (top 13)) .none kV87 dc87 pm87 an87 cd87 ct87), sl87⟩) (c87 : PySem.W.codeIn K cd87 "times" = true) (k87 : PySem.W.keepIn K (.ref F87) = true)
    (a68 : PySem.W.nsIn K mainGlobals "is_less" = some (some (.ref F68))) (l68 : K.lookup F68 = some ⟨oc68, od68, .func (PySem.W.fnOf "is_less" "is_less" (C8.fnArgs (top 14)) (C8.fnBody (top 14)) (C8.fnScope (top 14)) .none kV68 dc68 pm68 an68 cd68 ct68), sl68⟩) (c68 : PySem.W.codeIn K cd68 "is_less" = true) (k68 : PySem.W.keepIn K (.ref F68) = true)
    (a88 : PySem.W.nsIn K mainGlobals "left_of" = some (some (.ref F88))) (l88 : K.lookup F88 = some ⟨oc88, od88, .func (PySem.W.fnOf "left_of" "left_of" (C8.fnArgs (top 15)) (C8.fnBody (top 15)) (C8.fnScope (top 15)) .none kV88 dc88 pm88 an88 cd88 ct88), sl88⟩) (c88 : PySem.W.codeIn K cd88 "left_of" = true) (k88 : PySem.W.keepIn K (.ref F88) = true)
    (a89 : PySem.W.nsIn K mainGlobals "lesser" = some (some (.ref F89))) (l89 : K.lookup F89 = some ⟨oc89, od89, .func (PySem.W.fnOf "lesser" "lesser" (C8.fnArgs (top 16)) (C8.fnBody (top 16)) (C8.fnScope (top 16)) .none kV89 dc89 pm89 an89 cd89 ct89), sl89⟩) (c89 : PySem.W.codeIn K cd89 "lesser" = true) (k89 : PySem.W.keepIn K (.ref F89) = true)
    (a69 : PySem.W.nsIn K mainGlobals "is_purse" = some (some (.ref F69))) (l69 : K.lookup F69 = some ⟨oc69, od69, .func (PySem.W.fnOf "is_purse" "is_purse" (C8.fnArgs (top 20)) (C8.fnBody (top 20)) (C8.fnScope (top 20)) .none kV69 dc69 pm69 an69 cd69 ct69), sl69⟩) (c69 : PySem.W.codeIn K cd69 "is_purse" = true) (k69 : PySem.W.keepIn K (.ref F69) = true)
    (a90 : PySem.W.nsIn K mainGlobals "has_whole" = some (some (.ref F90))) (l90 : K.lookup F90 = some ⟨oc90, od90, .func (PySem.W.fnOf "has_whole" "has_whole" (C8.fnArgs (top 21)) (C8.fnBody (top 21)) (C8.fnScope (top 21)) .none kV90 dc90 pm90 an90 cd90 ct90), sl90⟩) (c90 : PySem.W.codeIn K cd90 "has_whole" = true) (k90 : PySem.W.keepIn K (.ref F90) = true)
    (a91 : PySem.W.nsIn K mainGlobals "paid" = some (some (.ref F91))) (l91 : K.lookup F91 = some ⟨oc91, od91, .func (PySem.W.fnOf "paid" "paid" (C8.fnArgs (top 22)) (C8.fnBody (top 22)) (C8.fnScope (top 22)) .none kV91 dc91 pm91 an91 cd91 ct91), sl91⟩) (c91 : PySem.W.codeIn K cd91 "paid" = true) (k91 : PySem.W.keepIn K (.ref F91) = true)
    (a92 : PySem.W.nsIn K mainGlobals "purse_filled" = some (some (.ref F92))) (l92 : K.lookup F92 = some ⟨oc92, od92, .func (PySem.W.fnOf "purse_filled" "purse_filled" (C8.fnArgs (top 23)) (C8.fnBody (top 23)) (C8.fnScope (top 23)) .none (.ref D92) dc92 pm92 an92 cd92 ct92), sl92⟩) (c92 : PySem.W.codeIn K cd92 "purse_filled" = true) (k92 : PySem.W.keepIn K (.ref F92) = true)
    (d92_ticks : PySem.W.nsIn K D92 "ticks" = some (some (.int 1 tkd92_ticks)))
    (a93 : PySem.W.nsIn K mainGlobals "ticks_till" = some (some (.ref F93))) (l93 : K.lookup F93 = some ⟨oc93, od93, .func (PySem.W.fnOf "ticks_till" "ticks_till" (C8.fnArgs (top 24)) (C8.fnBody (top 24)) (C8.fnScope (top 24)) .none kV93 dc93 pm93 an93 cd93 ct93), sl93⟩) (c93 : PySem.W.codeIn K cd93 "ticks_till" = true) (k93 : PySem.W.keepIn K (.ref F93) = true)
    (a31 : PySem.W.nsIn K mainGlobals "void_ring" = some (some (.ref F31))) (l31 : K.lookup F31 = some ⟨oc31, od31, .func (PySem.W.fnOf "void_ring" "void_ring" (C8.fnArgs (top 27)) (C8.fnBody (top 27)) (C8.fnScope (top 27)) .none kV31 dc31 pm31 an31 cd31 ct31), sl31⟩) (c31 : PySem.W.codeIn K cd31 "void_ring" = true) (k31 : PySem.W.keepIn K (.ref F31) = true)
    (a94 : PySem.W.nsIn K mainGlobals "void_lane" = some (some (.ref F94))) (l94 : K.lookup F94 = some ⟨oc94, od94, .func (PySem.W.fnOf "void_lane" "void_lane" (C8.fnArgs (top 36)) (C8.fnBody (top 36)) (C8.fnScope (top 36)) .none kV94 dc94 pm94 an94 cd94 ct94), sl94⟩) (c94 : PySem.W.codeIn K cd94 "void_lane" = true) (k94 : PySem.W.keepIn K (.ref F94) = true)
    (a95 : PySem.W.nsIn K mainGlobals "half_of" = some (some (.ref F95))) (l95 : K.lookup F95 = some ⟨oc95, od95, .func (PySem.W.fnOf "half_of" "half_of" (C8.fnArgs (top 37)) (C8.fnBody (top 37)) (C8.fnScope (top 37)) .none (.ref D95) dc95 pm95 an95 cd95 ct95), sl95⟩) (c95 : PySem.W.codeIn K cd95 "half_of" = true) (k95 : PySem.W.keepIn K (.ref F95) = true)
    (d95_purse : PySem.W.nsIn K D95 "purse" = some (some (.ref add95_purse)))
    (d95_lanes : PySem.W.nsIn K D95 "lanes" = some (some (.int 2 tkd95_lanes)))
    (d95_size : PySem.W.nsIn K D95 "size" = some (some (.int 4 tkd95_size)))
    (a96 : PySem.W.nsIn K mainGlobals "turned_at" = some (some (.ref F96))) (l96 : K.lookup F96 = some ⟨oc96, od96, .func (PySem.W.fnOf "turned_at" "turned_at" (C8.fnArgs (top 38)) (C8.fnBody (top 38)) (C8.fnScope (top 38)) .none kV96 dc96 pm96 an96 cd96 ct96), sl96⟩) (c96 : PySem.W.codeIn K cd96 "turned_at" = true) (k96 : PySem.W.keepIn K (.ref F96) = true)
    (a97 : PySem.W.nsIn K mainGlobals "lane_turned" = some (some (.ref F97))) (l97 : K.lookup F97 = some ⟨oc97, od97, .func (PySem.W.fnOf "lane_turned" "lane_turned" (C8.fnArgs (top 39)) (C8.fnBody (top 39)) (C8.fnScope (top 39)) .none kV97 dc97 pm97 an97 cd97 ct97), sl97⟩) (c97 : PySem.W.codeIn K cd97 "lane_turned" = true) (k97 : PySem.W.keepIn K (.ref F97) = true)
    (a21 : PySem.W.nsIn K mainGlobals "void_memory" = some (some (.ref F21))) (l21 : K.lookup F21 = some ⟨oc21, od21, .func (PySem.W.fnOf "void_memory" "void_memory" (C8.fnArgs (top 41)) (C8.fnBody (top 41)) (C8.fnScope (top 41)) .none kV21 dc21 pm21 an21 cd21 ct21), sl21⟩) (c21 : PySem.W.codeIn K cd21 "void_memory" = true) (k21 : PySem.W.keepIn K (.ref F21) = true)
    (a98 : PySem.W.nsIn K mainGlobals "is_due" = some (some (.ref F98))) (l98 : K.lookup F98 = some ⟨oc98, od98, .func (PySem.W.fnOf "is_due" "is_due" (C8.fnArgs (top 45)) (C8.fnBody (top 45)) (C8.fnScope (top 45)) .none kV98 dc98 pm98 an98 cd98 ct98), sl98⟩) (c98 : PySem.W.codeIn K cd98 "is_due" = true) (k98 : PySem.W.keepIn K (.ref F98) = true)
    (a99 : PySem.W.nsIn K mainGlobals "look_at_lane" = some (some (.ref F99))) (l99 : K.lookup F99 = some ⟨oc99, od99, .func (PySem.W.fnOf "look_at_lane" "look_at_lane" (C8.fnArgs (top 47)) (C8.fnBody (top 47)) (C8.fnScope (top 47)) .none kV99 dc99 pm99 an99 cd99 ct99), sl99⟩) (c99 : PySem.W.codeIn K cd99 "look_at_lane" = true) (k99 : PySem.W.keepIn K (.ref F99) = true)
    (a100 : PySem.W.nsIn K mainGlobals "ticked" = some (some (.ref F100))) (l100 : K.lookup F100 = some ⟨oc100, od100, .func (PySem.W.fnOf "ticked" "ticked" (C8.fnArgs (top 48)) (C8.fnBody (top 48)) (C8.fnScope (top 48)) .none (.ref D100) dc100 pm100 an100 cd100 ct100), sl100⟩) (c100 : PySem.W.codeIn K cd100 "ticked" = true) (k100 : PySem.W.keepIn K (.ref F100) = true)
    (d100_most : PySem.W.nsIn K D100 "most" = some (some (.int 2 tkd100_most)))
    (d100_wait : PySem.W.nsIn K D100 "wait" = some (some (.int 4 tkd100_wait)))
    (a101 : PySem.W.nsIn K mainGlobals "time_at" = some (some (.ref F101))) (l101 : K.lookup F101 = some ⟨oc101, od101, .func (PySem.W.fnOf "time_at" "time_at" (C8.fnArgs (top 51)) (C8.fnBody (top 51)) (C8.fnScope (top 51)) .none (.ref D101) dc101 pm101 an101 cd101 ct101), sl101⟩) (c101 : PySem.W.codeIn K cd101 "time_at" = true) (k101 : PySem.W.keepIn K (.ref F101) = true)
    (d101_drift : PySem.W.nsIn K D101 "drift" = some (some (.ref add101_drift)))
    (a8 : PySem.W.nsIn K mainGlobals "_law_feed" = some (some (.ref F8))) (l8 : K.lookup F8 = some ⟨oc8, od8, .func (PySem.W.fnOf "_law_feed" "_law_feed" (C8.fnArgs (top 53)) (C8.fnBody (top 53)) (C8.fnScope (top 53)) .none kV8 dc8 pm8 an8 cd8 ct8), sl8⟩) (c8 : PySem.W.codeIn K cd8 "_law_feed" = true) (k8 : PySem.W.keepIn K (.ref F8) = true)
    (a0 : PySem.W.nsIn K mainGlobals "_law_draw" = some (some (.ref F0))) (l0 : K.lookup F0 = some ⟨oc0, od0, .func (PySem.W.fnOf "_law_draw" "_law_draw" (C8.fnArgs (top 54)) (C8.fnBody (top 54)) (C8.fnScope (top 54)) .none kV0 dc0 pm0 an0 cd0 ct0), sl0⟩) (c0 : PySem.W.codeIn K cd0 "_law_draw" = true) (k0 : PySem.W.keepIn K (.ref F0) = true)
    (a70 : PySem.W.nsIn K mainGlobals "_law_fraction" = some (some (.ref F70))) (l70 : K.lookup F70 = some ⟨oc70, od70, .func (PySem.W.fnOf "_law_fraction" "_law_fraction" (C8.fnArgs (top 55)) (C8.fnBody (top 55)) (C8.fnScope (top 55)) .none kV70 dc70 pm70 an70 cd70 ct70), sl70⟩) (c70 : PySem.W.codeIn K cd70 "_law_fraction" = true) (k70 : PySem.W.keepIn K (.ref F70) = true)
    (a71 : PySem.W.nsIn K mainGlobals "_law_purse" = some (some (.ref F71))) (l71 : K.lookup F71 = some ⟨oc71, od71, .func (PySem.W.fnOf "_law_purse" "_law_purse" (C8.fnArgs (top 56)) (C8.fnBody (top 56)) (C8.fnScope (top 56)) .none kV71 dc71 pm71 an71 cd71 ct71), sl71⟩) (c71 : PySem.W.codeIn K cd71 "_law_purse" = true) (k71 : PySem.W.keepIn K (.ref F71) = true)
    (a108 : PySem.W.nsIn K mainGlobals "_law_two_right" = some (some (.ref F108))) (l108 : K.lookup F108 = some ⟨oc108, od108, .func (PySem.W.fnOf "_law_two_right" "_law_two_right" (C8.fnArgs (top 57)) (C8.fnBody (top 57)) (C8.fnScope (top 57)) .none kV108 dc108 pm108 an108 cd108 ct108), sl108⟩) (c108 : PySem.W.codeIn K cd108 "_law_two_right" = true) (k108 : PySem.W.keepIn K (.ref F108) = true)
    (a103 : PySem.W.nsIn K mainGlobals "_law_three_right" = some (some (.ref F103))) (l103 : K.lookup F103 = some ⟨oc103, od103, .func (PySem.W.fnOf "_law_three_right" "_law_three_right" (C8.fnArgs (top 58)) (C8.fnBody (top 58)) (C8.fnScope (top 58)) .none kV103 dc103 pm103 an103 cd103 ct103), sl103⟩) (c103 : PySem.W.codeIn K cd103 "_law_three_right" = true) (k103 : PySem.W.keepIn K (.ref F103) = true)
    (a104 : PySem.W.nsIn K mainGlobals "_law_purse_right" = some (some (.ref F104))) (l104 : K.lookup F104 = some ⟨oc104, od104, .func (PySem.W.fnOf "_law_purse_right" "_law_purse_right" (C8.fnArgs (top 59)) (C8.fnBody (top 59)) (C8.fnScope (top 59)) .none kV104 dc104 pm104 an104 cd104 ct104), sl104⟩) (c104 : PySem.W.codeIn K cd104 "_law_purse_right" = true) (k104 : PySem.W.keepIn K (.ref F104) = true)
    (a105 : PySem.W.nsIn K mainGlobals "_law_half_right" = some (some (.ref F105))) (l105 : K.lookup F105 = some ⟨oc105, od105, .func (PySem.W.fnOf "_law_half_right" "_law_half_right" (C8.fnArgs (top 60)) (C8.fnBody (top 60)) (C8.fnScope (top 60)) .none kV105 dc105 pm105 an105 cd105 ct105), sl105⟩) (c105 : PySem.W.codeIn K cd105 "_law_half_right" = true) (k105 : PySem.W.keepIn K (.ref F105) = true)
    (a106 : PySem.W.nsIn K mainGlobals "_law_times_right" = some (some (.ref F106))) (l106 : K.lookup F106 = some ⟨oc106, od106, .func (PySem.W.fnOf "_law_times_right" "_law_times_right" (C8.fnArgs (top 61)) (C8.fnBody (top 61)) (C8.fnScope (top 61)) .none kV106 dc106 pm106 an106 cd106 ct106), sl106⟩) (c106 : PySem.W.codeIn K cd106 "_law_times_right" = true) (k106 : PySem.W.keepIn K (.ref F106) = true)
    (a109 : PySem.W.nsIn K mainGlobals "law" = some (some (.ref F109))) (l109 : K.lookup F109 = some ⟨oc109, od109, .func (PySem.W.fnOf "law" "law" (C8.fnArgs (top 62)) (C8.fnBody (top 62)) (C8.fnScope (top 62)) .none kV109 dc109 pm109 an109 cd109 ct109), sl109⟩) (c109 : PySem.W.codeIn K cd109 "law" = true) (k109 : PySem.W.keepIn K (.ref F109) = true)
    (z0 : PySem.W.nsIn K mainGlobals "all" = some none)
    (z1 : PySem.W.nsIn K mainGlobals "bool" = some none)
    (z2 : PySem.W.nsIn K mainGlobals "int" = some none)
    (z3 : PySem.W.nsIn K mainGlobals "isinstance" = some none)
    (z4 : PySem.W.nsIn K mainGlobals "len" = some none)
    (z5 : PySem.W.nsIn K mainGlobals "list" = some none)
    (z6 : PySem.W.nsIn K mainGlobals "range" = some none)
    (z7 : PySem.W.nsIn K mainGlobals "tuple" = some none)
    (vg0 : PySem.W.nsIn K mainGlobals "BOX_AT" = some (some (.int 5 tkg0)))
    (vg1 : PySem.W.nsIn K mainGlobals "HALF_AT" = some (some (.int 0 tkg1)))
    (vg2 : PySem.W.nsIn K mainGlobals "LANES_AT" = some (some (.int 1 tkg2)))
    (vg3 : PySem.W.nsIn K mainGlobals "MASKED_AT" = some (some (.int 7 tkg3)))
    (vg4 : PySem.W.nsIn K mainGlobals "PURSE_AT" = some (some (.int 7 tkg4)))
    (vg5 : PySem.W.nsIn K mainGlobals "SINCE_AT" = some (some (.int 6 tkg5)))
    (vg6 : PySem.W.nsIn K mainGlobals "SPAN" = some (some (.int 8 tkg6)))
    (vg7 : PySem.W.nsIn K mainGlobals "WHOLE" = some (some (.ref adg7)))
    (lkd95_purse : K.lookup add95_purse = some ⟨.type "tuple", odd95_purse, .seq #[(.ref add95_purse_0), (.ref add95_purse_1), (.ref add95_purse_2)] nnd95_purse, vsd95_purse⟩)
    (lkd95_purse_0 : K.lookup add95_purse_0 = some ⟨.type "tuple", odd95_purse_0, .seq #[(.int 2 tkd95_purse_0_0), (.int 1 tkd95_purse_0_1)] nnd95_purse_0, vsd95_purse_0⟩)
    (lkd95_purse_1 : K.lookup add95_purse_1 = some ⟨.type "tuple", odd95_purse_1, .seq #[(.int 1 tkd95_purse_1_0), (.int 1 tkd95_purse_1_1)] nnd95_purse_1, vsd95_purse_1⟩)
    (lkd95_purse_2 : K.lookup add95_purse_2 = some ⟨.type "tuple", odd95_purse_2, .seq #[(.int 4 tkd95_purse_2_0), (.int 1 tkd95_purse_2_1)] nnd95_purse_2, vsd95_purse_2⟩)
    (lkd101_drift : K.lookup add101_drift = some ⟨.type "tuple", odd101_drift, .seq #[(.int 1 tkd101_drift_0), (.int 1 tkd101_drift_1)] nnd101_drift, vsd101_drift⟩)
    (lkg7 : K.lookup adg7 = some ⟨.type "tuple", odg7, .seq #[(.int 1 tkg7_0), (.int 1 tkg7_1)] nng7, vsg7⟩)
    : TabOk K mg tab gl bl := by
  refine ⟨fun t m => ?_, fun x d m => ?_, fun b m => ?_⟩
  rcases List.mem_cons.mp m with m | m
  · subst m; refine ⟨fnk_mk inK G rfl a27 l27 c27 k27 fun sh m => ?_, ok27⟩
    rcases List.mem_cons.mp m with m | m
    · subst m; exact bind_all (n := 1) rfl fun us hl => match us, hl with | [_], _ => rfl
    · exact absurd m (by simp)
  rcases List.mem_cons.mp m with m | m
  · subst m; refine ⟨fnk_mk inK G rfl a28 l28 c28 k28 fun sh m => ?_, ok28⟩
    rcases List.mem_cons.mp m with m | m
    · subst m; exact bind_all (n := 1) rfl fun us hl => match us, hl with | [_], _ => rfl
    · exact absurd m (by simp)
  rcases List.mem_cons.mp m with m | m
  · subst m; refine ⟨fnk_mk inK G rfl a66 l66 c66 k66 fun sh m => ?_, ok66⟩
    rcases List.mem_cons.mp m with m | m
    · subst m; exact bind_all (n := 2) rfl fun us hl => match us, hl with | [_, _], _ => rfl
    · exact absurd m (by simp)
  rcases List.mem_cons.mp m with m | m
  · subst m; refine ⟨fnk_mk inK G rfl a67 l67 c67 k67 fun sh m => ?_, ok67⟩
    rcases List.mem_cons.mp m with m | m
    · subst m; exact bind_all (n := 1) rfl fun us hl => match us, hl with | [_], _ => rfl
    · exact absurd m (by simp)
  rcases List.mem_cons.mp m with m | m
  · subst m; refine ⟨fnk_mk inK G rfl a85 l85 c85 k85 fun sh m => ?_, ok85⟩
    rcases List.mem_cons.mp m with m | m
    · subst m; exact bind_all (n := 2) rfl fun us hl => match us, hl with | [_, _], _ => rfl
    · exact absurd m (by simp)
  rcases List.mem_cons.mp m with m | m
  · subst m; refine ⟨fnk_mk inK G rfl a86 l86 c86 k86 fun sh m => ?_, ok86⟩
    rcases List.mem_cons.mp m with m | m
    · subst m; exact bind_all (n := 2) rfl fun us hl => match us, hl with | [_, _], _ => rfl
    · exact absurd m (by simp)
  rcases List.mem_cons.mp m with m | m
  · subst m; refine ⟨fnk_mk inK G rfl a87 l87 c87 k87 fun sh m => ?_, ok87⟩
    rcases List.mem_cons.mp m with m | m
    · subst m; exact bind_all (n := 2) rfl fun us hl => match us, hl with | [_, _], _ => rfl
    · exact absurd m (by simp)
  rcases List.mem_cons.mp m with m | m
  · subst m; refine ⟨fnk_mk inK G rfl a68 l68 c68 k68 fun sh m => ?_, ok68⟩
    rcases List.mem_cons.mp m with m | m
    · subst m; exact bind_all (n := 2) rfl fun us hl => match us, hl with | [_, _], _ => rfl
    · exact absurd m (by simp)
  rcases List.mem_cons.mp m with m | m
  · subst m; refine ⟨fnk_mk inK G rfl a88 l88 c88 k88 fun sh m => ?_, ok88⟩
    rcases List.mem_cons.mp m with m | m
    · subst m; exact bind_all (n := 2) rfl fun us hl => match us, hl with | [_, _], _ => rfl
    · exact absurd m (by simp)
  rcases List.mem_cons.mp m with m | m
  · subst m; refine ⟨fnk_mk inK G rfl a89 l89 c89 k89 fun sh m => ?_, ok89⟩
    rcases List.mem_cons.mp m with m | m
    · subst m; exact bind_all (n := 2) rfl fun us hl => match us, hl with | [_, _], _ => rfl
    · exact absurd m (by simp)
  rcases List.mem_cons.mp m with m | m
  · subst m; refine ⟨fnk_mk inK G rfl a69 l69 c69 k69 fun sh m => ?_, ok69⟩
    rcases List.mem_cons.mp m with m | m
    · subst m; exact bind_all (n := 1) rfl fun us hl => match us, hl with | [_], _ => rfl
    · exact absurd m (by simp)
  rcases List.mem_cons.mp m with m | m
  · subst m; refine ⟨fnk_mk inK G rfl a90 l90 c90 k90 fun sh m => ?_, ok90⟩
    rcases List.mem_cons.mp m with m | m
    · subst m; exact bind_all (n := 1) rfl fun us hl => match us, hl with | [_], _ => rfl
    · exact absurd m (by simp)
  rcases List.mem_cons.mp m with m | m
  · subst m; refine ⟨fnk_mk inK G rfl a91 l91 c91 k91 fun sh m => ?_, ok91⟩
    rcases List.mem_cons.mp m with m | m
    · subst m; exact bind_all (n := 1) rfl fun us hl => match us, hl with | [_], _ => rfl
    · exact absurd m (by simp)
  rcases List.mem_cons.mp m with m | m
  · subst m; refine ⟨fnk_mk inK G rfl a92 l92 c92 k92 fun sh m => ?_, ok92⟩
    rcases List.mem_cons.mp m with m | m
    · subst m; refine bind_kw (Da := D92) [("ticks", (.int 1 tkd92_ticks))] (fun q m => ?_) fun us ws hl hw => match us, ws, hl, hw with | [u0], [], _, _ => ⟨[u0, (.int 1 tkd92_ticks)], rfl, ⟨_, _, _, _, _, _, rfl, rfl, rfl⟩, (.pos rfl (.dft (v := (.int 1)) (fun _ => .int _) ⟨_, rfl⟩ .nil))⟩
      rcases List.mem_cons.mp m with m | m
      · subst m; exact d92_ticks
      exact absurd m (by simp)
    rcases List.mem_cons.mp m with m | m
    · subst m; refine bind_kw (Da := D92) [] (fun q m => ?_) fun us ws hl hw => match us, ws, hl, hw with | [u0], [w0], _, _ => ⟨[u0, w0], rfl, rfl, (.pos rfl (.pos rfl .nil))⟩
      exact absurd m (by simp)
    · exact absurd m (by simp)
  rcases List.mem_cons.mp m with m | m
  · subst m; refine ⟨fnk_mk inK G rfl a93 l93 c93 k93 fun sh m => ?_, ok93⟩
    rcases List.mem_cons.mp m with m | m
    · subst m; exact bind_all (n := 1) rfl fun us hl => match us, hl with | [_], _ => rfl
    · exact absurd m (by simp)
  rcases List.mem_cons.mp m with m | m
  · subst m; refine ⟨fnk_mk inK G rfl a31 l31 c31 k31 fun sh m => ?_, ok31⟩
    rcases List.mem_cons.mp m with m | m
    · subst m; exact bind_all (n := 1) rfl fun us hl => match us, hl with | [_], _ => rfl
    · exact absurd m (by simp)
  rcases List.mem_cons.mp m with m | m
  · subst m; refine ⟨fnk_mk inK G rfl a94 l94 c94 k94 fun sh m => ?_, ok94⟩
    rcases List.mem_cons.mp m with m | m
    · subst m; exact bind_all (n := 1) rfl fun us hl => match us, hl with | [_], _ => rfl
    · exact absurd m (by simp)
  rcases List.mem_cons.mp m with m | m
  · subst m; refine ⟨fnk_mk inK G rfl a95 l95 c95 k95 fun sh m => ?_, ok95⟩
    rcases List.mem_cons.mp m with m | m
    · subst m; refine bind_kw (Da := D95) [("lanes", (.int 2 tkd95_lanes)), ("size", (.int 4 tkd95_size))] (fun q m => ?_) fun us ws hl hw => match us, ws, hl, hw with | [u0], [w0], _, _ => ⟨[u0, w0, (.int 2 tkd95_lanes), (.int 4 tkd95_size)], rfl, ⟨_, _, _, _, _, _, rfl, rfl, ⟨_, _, _, _, _, _, rfl, rfl, rfl⟩⟩, (.pos rfl (.pos rfl (.dft (v := (.int 2)) (fun _ => .int _) ⟨_, rfl⟩ (.dft (v := (.int 4)) (fun _ => .int _) ⟨_, rfl⟩ .nil))))⟩
      rcases List.mem_cons.mp m with m | m
      · subst m; exact d95_lanes
      rcases List.mem_cons.mp m with m | m
      · subst m; exact d95_size
      exact absurd m (by simp)
    · exact absurd m (by simp)
  rcases List.mem_cons.mp m with m | m
  · subst m; refine ⟨fnk_mk inK G rfl a96 l96 c96 k96 fun sh m => ?_, ok96⟩
    rcases List.mem_cons.mp m with m | m
    · subst m; exact bind_all (n := 3) rfl fun us hl => match us, hl with | [_, _, _], _ => rfl
    · exact absurd m (by simp)
  rcases List.mem_cons.mp m with m | m
  · subst m; refine ⟨fnk_mk inK G rfl a97 l97 c97 k97 fun sh m => ?_, ok97⟩
    rcases List.mem_cons.mp m with m | m
    · subst m; exact bind_all (n := 4) rfl fun us hl => match us, hl with | [_, _, _, _], _ => rfl
    · exact absurd m (by simp)
  rcases List.mem_cons.mp m with m | m
  · subst m; refine ⟨fnk_mk inK G rfl a21 l21 c21 k21 fun sh m => ?_, ok21⟩
    rcases List.mem_cons.mp m with m | m
    · subst m; exact bind_all (n := 1) rfl fun us hl => match us, hl with | [_], _ => rfl
    · exact absurd m (by simp)
  rcases List.mem_cons.mp m with m | m
  · subst m; refine ⟨fnk_mk inK G rfl a98 l98 c98 k98 fun sh m => ?_, ok98⟩
    rcases List.mem_cons.mp m with m | m
    · subst m; exact bind_all (n := 3) rfl fun us hl => match us, hl with | [_, _, _], _ => rfl
    · exact absurd m (by simp)
  rcases List.mem_cons.mp m with m | m
  · subst m; refine ⟨fnk_mk inK G rfl a99 l99 c99 k99 fun sh m => ?_, ok99⟩
    rcases List.mem_cons.mp m with m | m
    · subst m; exact bind_all (n := 4) rfl fun us hl => match us, hl with | [_, _, _, _], _ => rfl
    · exact absurd m (by simp)
  rcases List.mem_cons.mp m with m | m
  · subst m; refine ⟨fnk_mk inK G rfl a100 l100 c100 k100 fun sh m => ?_, ok100⟩
    rcases List.mem_cons.mp m with m | m
    · subst m; refine bind_kw (Da := D100) [("most", (.int 2 tkd100_most)), ("wait", (.int 4 tkd100_wait))] (fun q m => ?_) fun us ws hl hw => match us, ws, hl, hw with | [u0, u1], [w0], _, _ => ⟨[u0, u1, w0, (.int 2 tkd100_most), (.int 4 tkd100_wait)], rfl, ⟨_, _, _, _, _, _, rfl, rfl, ⟨_, _, _, _, _, _, rfl, rfl, rfl⟩⟩, (.pos rfl (.pos rfl (.pos rfl (.dft (v := (.int 2)) (fun _ => .int _) ⟨_, rfl⟩ (.dft (v := (.int 4)) (fun _ => .int _) ⟨_, rfl⟩ .nil)))))⟩
      rcases List.mem_cons.mp m with m | m
      · subst m; exact d100_most
      rcases List.mem_cons.mp m with m | m
      · subst m; exact d100_wait
      exact absurd m (by simp)
    · exact absurd m (by simp)
  rcases List.mem_cons.mp m with m | m
  · subst m; refine ⟨fnk_mk inK G rfl a101 l101 c101 k101 fun sh m => ?_, ok101⟩
    rcases List.mem_cons.mp m with m | m
    · subst m; refine bind_kw (Da := D101) [("drift", (.ref add101_drift))] (fun q m => ?_) fun us ws hl hw => match us, ws, hl, hw with | [u0], [], _, _ => ⟨[u0, (.ref add101_drift)], rfl, ⟨_, _, _, _, _, _, rfl, rfl, rfl⟩, (.pos rfl (.dft (v := (.ref add101_drift)) (dp_tup (vs := [(.int 1), (.int 1)]) lkd101_drift (by show 2 ≤ sizeLine; decide) (.cons ⟨_, rfl⟩ (.cons ⟨_, rfl⟩ (.nil))) fun H => .cons ((fun _ => .int _) H) (.cons ((fun _ => .int _) H) (.nil))) rfl .nil))⟩
      rcases List.mem_cons.mp m with m | m
      · subst m; exact d101_drift
      exact absurd m (by simp)
    rcases List.mem_cons.mp m with m | m
    · subst m; refine bind_kw (Da := D101) [] (fun q m => ?_) fun us ws hl hw => match us, ws, hl, hw with | [u0], [w0], _, _ => ⟨[u0, w0], rfl, rfl, (.pos rfl (.pos rfl .nil))⟩
      exact absurd m (by simp)
    · exact absurd m (by simp)
  rcases List.mem_cons.mp m with m | m
  · subst m; refine ⟨fnk_mk inK G rfl a8 l8 c8 k8 fun sh m => ?_, ok8⟩
    rcases List.mem_cons.mp m with m | m
    · subst m; exact bind_all (n := 1) rfl fun us hl => match us, hl with | [_], _ => rfl
    · exact absurd m (by simp)
  rcases List.mem_cons.mp m with m | m
  · subst m; refine ⟨fnk_mk inK G rfl a0 l0 c0 k0 fun sh m => ?_, ok0⟩
    rcases List.mem_cons.mp m with m | m
    · subst m; exact bind_all (n := 2) rfl fun us hl => match us, hl with | [_, _], _ => rfl
    · exact absurd m (by simp)
  rcases List.mem_cons.mp m with m | m
  · subst m; refine ⟨fnk_mk inK G rfl a70 l70 c70 k70 fun sh m => ?_, ok70⟩
    rcases List.mem_cons.mp m with m | m
    · subst m; exact bind_all (n := 1) rfl fun us hl => match us, hl with | [_], _ => rfl
    · exact absurd m (by simp)
  rcases List.mem_cons.mp m with m | m
  · subst m; refine ⟨fnk_mk inK G rfl a71 l71 c71 k71 fun sh m => ?_, ok71⟩
    rcases List.mem_cons.mp m with m | m
    · subst m; exact bind_all (n := 1) rfl fun us hl => match us, hl with | [_], _ => rfl
    · exact absurd m (by simp)
  rcases List.mem_cons.mp m with m | m
  · subst m; refine ⟨fnk_mk inK G rfl a108 l108 c108 k108 fun sh m => ?_, ok108⟩
    rcases List.mem_cons.mp m with m | m
    · subst m; exact bind_all (n := 2) rfl fun us hl => match us, hl with | [_, _], _ => rfl
    · exact absurd m (by simp)
  rcases List.mem_cons.mp m with m | m
  · subst m; refine ⟨fnk_mk inK G rfl a103 l103 c103 k103 fun sh m => ?_, ok103⟩
    rcases List.mem_cons.mp m with m | m
    · subst m; exact bind_all (n := 3) rfl fun us hl => match us, hl with | [_, _, _], _ => rfl
    · exact absurd m (by simp)
  rcases List.mem_cons.mp m with m | m
  · subst m; refine ⟨fnk_mk inK G rfl a104 l104 c104 k104 fun sh m => ?_, ok104⟩
    rcases List.mem_cons.mp m with m | m
    · subst m; exact bind_all (n := 3) rfl fun us hl => match us, hl with | [_, _, _], _ => rfl
    · exact absurd m (by simp)
  rcases List.mem_cons.mp m with m | m
  · subst m; refine ⟨fnk_mk inK G rfl a105 l105 c105 k105 fun sh m => ?_, ok105⟩
    rcases List.mem_cons.mp m with m | m
    · subst m; exact bind_all (n := 2) rfl fun us hl => match us, hl with | [_, _], _ => rfl
    · exact absurd m (by simp)
  rcases List.mem_cons.mp m with m | m
  · subst m; refine ⟨fnk_mk inK G rfl a106 l106 c106 k106 fun sh m => ?_, ok106⟩
    rcases List.mem_cons.mp m with m | m
    · subst m; exact bind_all (n := 3) rfl fun us hl => match us, hl with | [_, _, _], _ => rfl
    · exact absurd m (by simp)
  rcases List.mem_cons.mp m with m | m
  · subst m; refine ⟨fnk_mk inK G rfl a109 l109 c109 k109 fun sh m => ?_, ok109⟩
    rcases List.mem_cons.mp m with m | m
    · subst m; exact bind_all (n := 1) rfl fun us hl => match us, hl with | [_], _ => rfl
    · exact absurd m (by simp)
  · exact absurd m (by simp)
  rcases List.mem_cons.mp m with m | m
  · cases m; exact gl_any (v := (.int 5)) inK G vg0 ⟨_, rfl⟩ (fun _ => .int _)
  rcases List.mem_cons.mp m with m | m
  · cases m; exact gl_any (v := (.int 0)) inK G vg1 ⟨_, rfl⟩ (fun _ => .int _)
  rcases List.mem_cons.mp m with m | m
  · cases m; exact gl_any (v := (.int 1)) inK G vg2 ⟨_, rfl⟩ (fun _ => .int _)
  rcases List.mem_cons.mp m with m | m
  · cases m; exact gl_any (v := (.int 7)) inK G vg3 ⟨_, rfl⟩ (fun _ => .int _)
  rcases List.mem_cons.mp m with m | m
  · cases m; exact gl_any (v := (.int 7)) inK G vg4 ⟨_, rfl⟩ (fun _ => .int _)
  rcases List.mem_cons.mp m with m | m
  · cases m; exact gl_any (v := (.int 6)) inK G vg5 ⟨_, rfl⟩ (fun _ => .int _)
  rcases List.mem_cons.mp m with m | m
  · cases m; exact gl_any (v := (.int 8)) inK G vg6 ⟨_, rfl⟩ (fun _ => .int _)
  rcases List.mem_cons.mp m with m | m
  · cases m; exact gl_any (v := (.ref adg7)) inK G vg7 rfl (dp_tup (vs := [(.int 1), (.int 1)]) lkg7 (by show 2 ≤ sizeLine; decide) (.cons ⟨_, rfl⟩ (.cons ⟨_, rfl⟩ (.nil))) fun H => .cons ((fun _ => .int _) H) (.cons ((fun _ => .int _) H) (.nil)))
  · exact absurd m (by simp)
  rcases List.mem_cons.mp m with m | m
  · subst m; exact PySem.W.mg_none_of inK G z0
  rcases List.mem_cons.mp m with m | m
  · subst m; exact PySem.W.mg_none_of inK G z1
  rcases List.mem_cons.mp m with m | m
  · subst m; exact PySem.W.mg_none_of inK G z2
  rcases List.mem_cons.mp m with m | m
  · subst m; exact PySem.W.mg_none_of inK G z3
  rcases List.mem_cons.mp m with m | m
  · subst m; exact PySem.W.mg_none_of inK G z4
  rcases List.mem_cons.mp m with m | m
  · subst m; exact PySem.W.mg_none_of inK G z5
  rcases List.mem_cons.mp m with m | m
  · subst m; exact PySem.W.mg_none_of inK G z6
  rcases List.mem_cons.mp m with m | m
  · subst m; exact PySem.W.mg_none_of inK G z7
  · exact absurd m (by simp)
def F2 : Nat := 2 ^ 2000
theorem lawful : Lawful tab F2 7 109 63 := by
  intro ns hl
  have F : Fd10 (dfsOf tab) := ⟨⟨dr, by decide, rfl⟩, ⟨⟨⟨rfl, rfl, rfl, rfl⟩, rfl, rfl, rfl, rfl, rfl, rfl⟩, rfl, rfl, rfl, rfl⟩, ⟨rfl, rfl, rfl, rfl, rfl, rfl, rfl, rfl⟩, rfl, rfl, rfl, rfl, rfl, rfl, rfl, rfl, rfl⟩
  have h8 : dfsOf tab 8 = some Hlp.f8 := rfl
  have h109 : dfsOf tab 109 = some f109 := rfl
  have hf : Fu F2 := Nat.le_refl _
  generalize F2 = fuel at *
  generalize dfsOf tab = ds at *
  have e0 := feed_run h8 (fuel := fuel) (k := 5) hl
  obtain ⟨L, n1, s1, hL, f1, l1, e1⟩ := row_draw F (k := 0) (n := 0) (st := [feedOf ns 0 0 0]) (x0 := .list (ns.map .int)) hf ⟨ns, 0, 0, rfl⟩ (by omega)
  obtain ⟨s2, f2, e2⟩ := out_loop F (k := 0) hf hL f1 (by omega)
  obtain ⟨e3, s3, f3, h3, e4⟩ := last_loop F (k := 0) hf f2 (by omega)
  refine ⟨s3.take 0, ?_⟩
  show callN ds fuel (6 + 1) 109 _ _ = _
  rw [callN_eq h109]
  have r8 : (upTo 0 8).length ≤ lim := by rw [upTo_len]; exact lim_le (by decide)
  have r6 : (upTo 0 6).length ≤ lim := by rw [upTo_len]; exact lim_le (by decide)
  replace e1 : exs ⟨callN ds fuel 6, fuel⟩ f109_22 _ = _ := e1
  replace e2 : forL (.nm 4) (exs ⟨callN ds fuel 6, fuel⟩ f109_17) (upTo 0 8) _ = _ := e2
  replace e4 : forL (.nm 3) (exs ⟨callN ds fuel 6, fuel⟩ f109_6) (upTo 0 6) _ = _ := e4
  have t1 : exs ⟨callN ds fuel 6, fuel⟩ f109_23 ⟨[.dat (.list (ns.map .int)), .non, .non, .non, .non, .non, .non, .non], []⟩ = exs ⟨callN ds fuel 6, fuel⟩ f109_22 ⟨[.dat (.list (ns.map .int)), .loc 0, .non, .non, .non, .non, .non, .non], [feedOf ns 0 0 0]⟩ := by
    unfold f109_23
    generalize f109_22 = b
    push_cast [e0]
  have t2 : exs ⟨callN ds fuel 6, fuel⟩ f109_18 ⟨[.non, .loc 0, .own L, .non, .non, .non, .non, .non], s1⟩ = exs ⟨callN ds fuel 6, fuel⟩ f109_7 ⟨[.non, .loc 0, .non, .non, .non, .non, .non, .non], s2⟩ := by
    unfold f109_18 f109_8
    generalize f109_7 = b
    push_cast [e2, r8]
  have t3 : exs ⟨callN ds fuel 6, fuel⟩ f109_7 ⟨[.non, .loc 0, .non, .non, .non, .non, .non, .non], s2⟩ = .ok (.ret (.dat (.bool true))) ⟨[.non, .loc 0, .non, e3, .non, .non, .non, .non], s3⟩ := by
    push_cast [e4, r6]
  have t := t1.trans (e1.trans (t2.trans t3))
  push_cast [t]
end K10
end
set_option Elab.async false
set_option linter.all false
open PySem PySem.Spec L2 Pur
namespace K10
theorem walk {l : PySem.W.OpenLaw} {q : Program} {loose : List Str} {XP : (Str → Option Value) → Heap → Prop} {YP : World → Heap → Prop} {d : DefRec} {K : Params → PySem.W.Frag} (hn : l.most = some 63) (hdf : d.params.defaults = [])
    (hY : ∀ (w : World) (h : Heap), YP w h → (K w.params).In h) (hname : t109.name = d.name)
    (F : ∀ (w : World) (mg : Str → Option Value) (h : Heap), (K w.params).In h → h.Ns mainGlobals mg → TabOk (K w.params) mg tab gl bl) : PySem.W.WalkO q loose XP YP l.row.toRowW d [] (fun f vs => PySem.call f vs) := by
  exact walkP (t := t109) (il := 109) (fuel := K10.F2) (k := 7) (x := "_law_script") hn (by decide) hdf ⟨rfl, by decide, by decide⟩ hY rfl rfl hname F (by simp [t109]) lawful
end K10
open PySem PySem.W PyProof.Rows
set_option maxRecDepth 100000 in
set_option maxHeartbeats 0 in
theorem PySem.Challenge.cw_cardrings_k10_whole_fractions_to_purses_holds : PySem.Challenge.rw_cardrings_k10_whole_fractions_to_purses.Holds := by
  w_on; o_law; k_head; (case hw => w_witness2)
  k_fill
  refine K10.walk (l := PySem.Challenge.rw_cardrings_k10_whole_fractions_to_purses) rfl rfl (fun w h Y => PySem.W.kIn_of Y) rfl ?F
  case F =>
    intro w mg h inK G
    refine' K10.tabOk inK G ?a27 ?l27 ?c27 ?k27 ?a28 ?l28 ?c28 ?k28 ?a66 ?l66 ?c66 ?k66 ?a67 ?l67 ?c67 ?k67 ?a85 ?l85 ?c85 ?k85 ?a86 ?l86 ?c86 ?k86 ?a87 ?l87 ?c87 ?k87 ?a68 ?l68 ?c68 ?k68 ?a88 ?l88 ?c88 ?k88 ?a89 ?l89 ?c89 ?k89 ?a69 ?l69 ?c69 ?k69 ?a90 ?l90 ?c90 ?k90 ?a91 ?l91 ?c91 ?k91 ?a92 ?l92 ?c92 ?k92 ?d92_ticks ?a93 ?l93 ?c93 ?k93 ?a31 ?l31 ?c31 ?k31 ?a94 ?l94 ?c94 ?k94 ?a95 ?l95 ?c95 ?k95 ?d95_purse ?d95_lanes ?d95_size ?a96 ?l96 ?c96 ?k96 ?a97 ?l97 ?c97 ?k97 ?a21 ?l21 ?c21 ?k21 ?a98 ?l98 ?c98 ?k98 ?a99 ?l99 ?c99 ?k99 ?a100 ?l100 ?c100 ?k100 ?d100_most ?d100_wait ?a101 ?l101 ?c101 ?k101 ?d101_drift ?a8 ?l8 ?c8 ?k8 ?a0 ?l0 ?c0 ?k0 ?a70 ?l70 ?c70 ?k70 ?a71 ?l71 ?c71 ?k71 ?a108 ?l108 ?c108 ?k108 ?a103 ?l103 ?c103 ?k103 ?a104 ?l104 ?c104 ?k104 ?a105 ?l105 ?c105 ?k105 ?a106 ?l106 ?c106 ?k106 ?a109 ?l109 ?c109 ?k109 ?z0 ?z1 ?z2 ?z3 ?z4 ?z5 ?z6 ?z7 ?vg0 ?vg1 ?vg2 ?vg3 ?vg4 ?vg5 ?vg6 ?vg7 ?lkd95_purse ?lkd95_purse_0 ?lkd95_purse_1 ?lkd95_purse_2 ?lkd101_drift ?lkg7
    (case a27 => k_is)
    (case l27 => k_is)
    (case c27 => k_is)
    (case k27 => k_is)
    (case a28 => k_is)
    (case l28 => k_is)
    (case c28 => k_is)
    (case k28 => k_is)
    (case a66 => k_is)
    (case l66 => k_is)
    (case c66 => k_is)
    (case k66 => k_is)
    (case a67 => k_is)
    (case l67 => k_is)
    (case c67 => k_is)
    (case k67 => k_is)
    (case a85 => k_is)
    (case l85 => k_is)
    (case c85 => k_is)
    (case k85 => k_is)
    (case a86 => k_is)
    (case l86 => k_is)
    (case c86 => k_is)
    (case k86 => k_is)
    (case a87 => k_is)
    (case l87 => k_is)
    (case c87 => k_is)
    (case k87 => k_is)
    (case a68 => k_is)
    (case l68 => k_is)
    (case c68 => k_is)
    (case k68 => k_is)
    (case a88 => k_is)
    (case l88 => k_is)
    (case c88 => k_is)
    (case k88 => k_is)
    (case a89 => k_is)
    (case l89 => k_is)
    (case c89 => k_is)
    (case k89 => k_is)
    (case a69 => k_is)
    (case l69 => k_is)
    (case c69 => k_is)
    (case k69 => k_is)
    (case a90 => k_is)
    (case l90 => k_is)
    (case c90 => k_is)
    (case k90 => k_is)
    (case a91 => k_is)
    (case l91 => k_is)
    (case c91 => k_is)
    (case k91 => k_is)
    (case a92 => k_is)
    (case l92 => k_is)
    (case c92 => k_is)
    (case k92 => k_is)
    (case d92_ticks => k_is)
    (case a93 => k_is)
    (case l93 => k_is)
    (case c93 => k_is)
    (case k93 => k_is)
    (case a31 => k_is)
    (case l31 => k_is)
    (case c31 => k_is)
    (case k31 => k_is)
    (case a94 => k_is)
    (case l94 => k_is)
    (case c94 => k_is)
    (case k94 => k_is)
    (case a95 => k_is)
    (case l95 => k_is)
    (case c95 => k_is)
    (case k95 => k_is)
    (case d95_purse => k_is)
    (case d95_lanes => k_is)
    (case d95_size => k_is)
    (case a96 => k_is)
    (case l96 => k_is)
    (case c96 => k_is)
    (case k96 => k_is)
    (case a97 => k_is)
    (case l97 => k_is)
    (case c97 => k_is)
    (case k97 => k_is)
    (case a21 => k_is)
    (case l21 => k_is)
    (case c21 => k_is)
    (case k21 => k_is)
    (case a98 => k_is)
    (case l98 => k_is)
    (case c98 => k_is)
    (case k98 => k_is)
    (case a99 => k_is)
    (case l99 => k_is)
    (case c99 => k_is)
    (case k99 => k_is)
    (case a100 => k_is)
    (case l100 => k_is)
    (case c100 => k_is)
    (case k100 => k_is)
    (case d100_most => k_is)
    (case d100_wait => k_is)
    (case a101 => k_is)
    (case l101 => k_is)
    (case c101 => k_is)
    (case k101 => k_is)
    (case d101_drift => k_is)
    (case a8 => k_is)
    (case l8 => k_is)
    (case c8 => k_is)
    (case k8 => k_is)
    (case a0 => k_is)
    (case l0 => k_is)
    (case c0 => k_is)
    (case k0 => k_is)
    (case a70 => k_is)
    (case l70 => k_is)
    (case c70 => k_is)
    (case k70 => k_is)
    (case a71 => k_is)
    (case l71 => k_is)
    (case c71 => k_is)
    (case k71 => k_is)
    (case a108 => k_is)
    (case l108 => k_is)
    (case c108 => k_is)
    (case k108 => k_is)
    (case a103 => k_is)
    (case l103 => k_is)
    (case c103 => k_is)
    (case k103 => k_is)
    (case a104 => k_is)
    (case l104 => k_is)
    (case c104 => k_is)
    (case k104 => k_is)
    (case a105 => k_is)
    (case l105 => k_is)
    (case c105 => k_is)
    (case k105 => k_is)
    (case a106 => k_is)
    (case l106 => k_is)
    (case c106 => k_is)
    (case k106 => k_is)
    (case a109 => k_is)
    (case l109 => k_is)
    (case c109 => k_is)
    (case k109 => k_is)
    (case z0 => k_is)
    (case z1 => k_is)
    (case z2 => k_is)
    (case z3 => k_is)
    (case z4 => k_is)
    (case z5 => k_is)
    (case z6 => k_is)
    (case z7 => k_is)
    (case vg0 => k_is)
    (case vg1 => k_is)
    (case vg2 => k_is)
    (case vg3 => k_is)
    (case vg4 => k_is)
    (case vg5 => k_is)
    (case vg6 => k_is)
    (case vg7 => k_is)
    (case lkd95_purse => k_is)
    (case lkd95_purse_0 => k_is)
    (case lkd95_purse_1 => k_is)
    (case lkd95_purse_2 => k_is)
    (case lkd101_drift => k_is)
    (case lkg7 => k_is)
